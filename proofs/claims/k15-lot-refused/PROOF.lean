import PyProof.Rows.All
import Wide.All
import OpenK.AllK
import Wide.FinOn
import KE.KStateDown
import KE.KExcSuper
import HandS.ForMost
import HandS.ForExc
import HandS.ExcInit
import HandS.ExcSuper
import KE.GoesEnum
import KE.GoesMore
import HandS.CallSlots
import HandS.Defaults
import HandS.IsInst
import HandS.Wide
import HandS.Walk
import HandS.Flow
import KE.KCallOwn
import HandS.Property
import HandS.ExcField
import HandS.HeadHook2
import HandS.Head0
import HandS.Head1
import HandS.Head2
import HandS.HeadEnd
import HandS.FStr
import KE.GoesZip
import KE.KDictZip
import KE.KItemsList
import HandS.ListItems
import KE.KOpsOwn
import KE.KOwnIter
import HandS.IterNext
import HandS.OwnEq
import HandS.Codes
import HandS.More
import KE.KIsAll
import HandS.Base
import HandS.Call
import HandS.Ends
import HandS.ExcCtx
import KE.KStar
import HandS.Star
import HandS.ClsMeth
import HandS.OwnIter
import HandS.Text
import PyProof.ToksMono
import HandS.List
import HandS.Replace
import HandS.ReplaceList
import PyProof.GenRules
import HandS.GenBody
import HandS.GenYield
import HandS.GenCall
import HandS.GenList
import PyProof.StrWalks
import PyProof.Rows.SetFrom
import PyProof.DictKinds
import HandS.Set
import HandS.SetFor
import HandS.Dict
import HandS.SetKeys
import HandS.Iter
import HandS.DictComp
import HandS.Comp
import HandS.Deep
import KE.SortData
import HandS.SortInts
import KE.SortKeyHeap
import PyProof.StrOps
import HandS.SortKw
import HandS.SetBool
import HandS.DictTup
import KE.KDictWalk
import PyProof.ListStr
import PySem.Challenge.RW_risensigns_k15_lot_refused
set_option Elab.async false
set_option linter.all false
set_option maxRecDepth 100000
set_option maxHeartbeats 0
/-! Exceptions of the program: class X(..own.., ValueError) whose __init__ says super().__init__(text) and then stores at most one field. -/
namespace Rz
open PySem PySem.W PySem.Calls PyProof.Rows PySem.HandSPX

/-- the text of an __init__: super().__init__('..'); self.f = g -/
def exBody1 (msg f g : Str) (j : Nat) (p0 p1 p2 p3 p4 p5 q0 q1 q2 q3 : Pos) : List Stmt :=
  [.Expr (.Call (.Attribute (.Call (.Name "super" p0) [] [] p1) "__init__" p2) [.Constant (.str msg) j p3] [] p4) p5,
   .Assign [.Attribute (.Name "self" q0) f q1] (.Name g q2) q3]
def exBody0 (msg : Str) (j : Nat) (p0 p1 p2 p3 p4 p5 : Pos) : List Stmt :=
  [.Expr (.Call (.Attribute (.Call (.Name "super" p0) [] [] p1) "__init__" p2) [.Constant (.str msg) j p3] [] p4) p5]

/-- what the written part says of an exception class at C (whatever its __init__ is) -/
structure ExC (K : Frag) (C : Addr) : Prop where
  cls : ∃ nm q N bs bm sn sub ab col dd k0 k1 k2 k3 k5, K.lookup C = some (excClassObj nm q C N bs bm true sn sub ab col dd k0 k1 k2 k3 k5 "ValueError.__new__") ∧ refsVE bm = true
  sa : findIn K (.ref C) "__setattr__" = some (some (.builtin "object.__setattr__"))
  kC : keepIn K (.ref C) = true
  exC : subIn K (.ref C) (.type "BaseException") = some true
  veC : subIn K (.ref C) (.type "ValueError") = some true
  tyC : typeIn K (.ref C) = some (.type "type")
  op : nsIn K cStatics "thirdparty.any" = some none

/-- its own __init__ at fI, with the cell cc of __class__ and the code object cda -/
structure ExF (P : Program) (K : Frag) (C fI cc cda : Addr) (params : Arguments) (body : List Stmt) (scope : Scope) : Prop where
  iC : findIn K (.ref C) "__init__" = some (some (.ref fI))
  tI : typeIn K (.ref fI) = some (.type "function")
  fn : ∃ (oc : Value) (od : Option Addr) (name qual : Str) (kV doc pm ct : Value) (an : Option Addr) (osl : Array (Option Value)),
    K.lookup fI = some ⟨oc, od, .func (fnX name qual params body scope [("__class__", cc)] .none kV doc pm an (.ref cda) ct), osl⟩ ∧ codeIn K (.ref cda) qual = true
  code : ∃ (ccl : Value) (cdd : Option Addr) (vs : Array Value) (ccs : Array (Option Value)) (file : Str) (tf : Tok),
    K.lookup cda = some ⟨ccl, cdd, .fields vs, ccs⟩ ∧ vs[2]? = some (.str file tf) ∧ ((P.main.file : Str) == file) = true
  cell : ∃ (cl : Value) (cld : Option Addr) (csl : Array (Option Value)), K.lookup cc = some ⟨cl, cld, .cell (some (.ref C)), csl⟩
  sup : ks_superIn K C C "__init__" = some (some (.builtin "ValueError.__init__"))
  top : (P.main.scope.names.lookup ("super" : Str)).isSome = false

def SupOk (scope : Scope) (cc cda fI : Addr) (msg : Str) (j : Nat) (p0 p1 p2 p3 p4 p5 : Pos) : Prop := ∀ (qual : Str) (L : Addr), ∃ pl : Sem Bool,
  swapsWith (.Call (.Attribute (.Call (.Name "super" p0) [] [] p1) "__init__" p2) [.Constant (.str msg) j p3] [] p4) none p5.line (envX qual scope L fI (.ref cda) [("__class__", cc)]) = pure false ∧
  eval (.Call (.Attribute (.Call (.Name "super" p0) [] [] p1) "__init__" p2) [.Constant (.str msg) j p3] [] p4) (envX qual scope L fI (.ref cda) [("__class__", cc)]) = (do
      let ov ← attributeBase (.Call (.Name "super" p0) [] [] p1) "__init__" (envX qual scope L fI (.ref cda) [("__class__", cc)]) (eval (.Call (.Name "super" p0) [] [] p1) (envX qual scope L fI (.ref cda) [("__class__", cc)]))
      standAt p2.atName
      let (f, first) ← holding [ov] (getMethod ov "__init__" pl)
      callWith p4 f first (backTo p4 (starEach [.Constant (.str msg) j p3] (envX qual scope L fI (.ref cda) [("__class__", cc)]))) [])

theorem kept_but {K : Frag} {h h' : Heap} {x : Addr} (X : K.In h) (hx : K.lookup x = none) (k : ∀ b o, b ≠ x → h.get? b = some o → h'.get? b = some o) : K.In h' := fun a o e =>
  k a o (fun z => by rw [z, hx] at e; cases e) (X a o e)

section
variable {prog : Program} {w : World} {A : Around} {E : Value → Shared → Prop} {R : Result → Shared → Prop} {h : Heap} {g : Array GenState} {d : Drawn} {t : Nat} {os : OsState}
variable {nm q : Str} {C N : Addr} {bs bm : List Value} {hdct : Bool} {sn : List Str} {sub : List Value} {ab : Bool} {col : Option Bool} {dd : Option Addr} {k0 k1 k2 k3 k5 : Option Value}
/-- the bound ValueError.__init__ is called -/
theorem call_mw {u e t0 : Addr} {rest : List Value} {Q : Value → Shared → Prop}
    (hC : h.get? C = some (excClassObj nm q C N bs bm hdct sn sub ab col dd k0 k1 k2 k3 k5 "ValueError.__new__")) (he : h.get? e = some (excO C t0)) (hu : h.get? u = some (kxs_mw "ValueError.__init__" e)) (hrest : rest.length ≤ sizeLine)
    (hq : ∀ h' t1, (∀ b o, b ≠ e → h.get? b = some o → h'.get? b = some o) → h'.get? e = some (excO C t1) → Q .none ⟨h', g, d, t, os⟩) :
    wpAny (model prog w) A (call (.ref u) rest) Q E ⟨h, g, d, t, os⟩ := by
  refine wpAny_call (codeAny_of_tree ?_)
  show wpAny _ A.in1 (callAny (.ref u) ⟨rest, []⟩) _ _ _
  simp only [callAny]
  refine wpAny_bind (wpAny_load hu ?_)
  simp only [kxs_mw, show (Value.type "method-wrapper" == Value.type "method" || Value.type "method-wrapper" == Value.type "builtin_function_or_method" || Value.type "method-wrapper" == Value.type "method-wrapper") = true by decide, if_true]
  refine KFB.if_so (by decide) ?_
  refine wpAny_bind (check_bound_init F.excBase_ValueError.toExcCallFacts hC he rfl ?_)
  refine wpAny_bind (wpAny_pure (wpAny_pure ?_))
  refine ⟨plainId_quiet F.excBase_ValueError.init.plain _, codeAny_builtin F.excBase_ValueError.initEntry ?_⟩
  rw [Around.under_plainId F.excBase_ValueError.init.plain _]
  wp_walk
  refine hq _ h.objs.size (fun b o hb ho => ?_) ?_
  · rw [Heap.get?_update_other _ _ (Ne.symm hb)]
    exact Heap.get?_push_of_some _ ho
  · rw [Heap.get?_update_self _ (Heap.get?_push_of_some _ he) rfl]
    rfl
end

section
variable {prog : Program} {w : World} {A : Around} {E : Value → Shared → Prop} {R : Result → Shared → Prop} {s : Shared} {K : Frag} {mg : Str → Option Value} {C fI cc cda : Addr} {params : Arguments} {body : List Stmt} {scope : Scope}
/-- the statement super().__init__('..') -/
theorem sup_stmt {bodyT : List Stmt} {qual msg : Str} {j : Nat} {p0 p1 p2 p3 p4 p5 : Pos} {L x t0 : Addr} {m : Str → Option Value} {a0 : Arg} {Q : Flow → Shared → Prop} (T0 : ExC K C) (T : ExF prog K C fI cc cda params body scope)
    (X : K.In s.heap) (hg : s.heap.Ns mainGlobals mg) (hgs : mg "super" = none) (hb : ∃ mb, s.heap.Ns builtinsNs mb ∧ mb "super" = some (.type "super")) (hL : s.heap.Ns L m) (hself : m "self" = some (.ref x)) (hx : s.heap.get? x = some (excO C t0))
    (hk : scope.kind = .function) (hks : scope.names.lookup ("super" : Str) = some .globalImplicit) (hkc : scope.names.lookup ("__class__" : Str) = some .free) (hka : scope.names.lookup ("self" : Str) = some .local)
    (hp : (params.posonlyargs ++ params.args).head? = some a0) (ha0 : a0.arg = "self")
    (hev : SupOk scope cc cda fI msg j p0 p1 p2 p3 p4 p5)
    (hi : interactive (envX qual scope L fI (.ref cda) [("__class__", cc)]) = false)
    (hq : ∀ h' tk t1, (∀ b o, b ≠ x → s.heap.get? b = some o → h'.get? b = some o) → h'.get? x = some (excO C t1) → Q .next { s with heap := h', toks := tk }) :
    _root_.PySem.wpAt (model prog w) A (.func bodyT (envX qual scope L fI (.ref cda) [("__class__", cc)])) (exec (.Expr (.Call (.Attribute (.Call (.Name "super" p0) [] [] p1) "__init__" p2) [.Constant (.str msg) j p3] [] p4) p5) (envX qual scope L fI (.ref cda) [("__class__", cc)])) Q E s := by
  obtain ⟨oc, od, name, qu, kV, doc, pm, ct, an, osl, hf, hcd⟩ := T.fn
  obtain ⟨ccl, cdd, vs, ccs, file, tf, hcode, hvs, hfile⟩ := T.code
  obtain ⟨cl, cld, csl, hcell⟩ := T.cell
  obtain ⟨nm, q, N, bs, bm, sn, sub, ab, col, dd, k0, k1, k2, k3, k5, hC, hbm⟩ := T0.cls
  obtain ⟨mb, hmb, hmbs⟩ := hb
  obtain ⟨hh, g, d, t, os⟩ := s
  obtain ⟨pl, hsw, hev⟩ := hev qual L
  refine ks_wpAt_Expr_any ?_ hi hsw
  refine ks_wpAt_MethodCall (pl := pl) ?_ hev
  refine ks_wpAt_super_base (env := envX qual scope L fI (.ref cda) [("__class__", cc)]) hks hkc rfl rfl (X _ _ hf) rfl hp rfl (X _ _ hcode) rfl hvs hfile T.top ?_
  refine ks_loadName_global hk hks (loadGlobal_builtin (env := envX qual scope L fI (.ref cda) [("__class__", cc)]) hg hgs hmb hmbs ⟨rfl, ?_⟩)
  refine wpAny_loadName_free hk hkc rfl ⟨_, X _ _ hcell, rfl⟩ ?_
  rw [ha0]
  refine wpAny_loadName_local hk hka hL hself ?_
  have hC1 := X _ _ hC
  refine ks_wpAny_isType_cls hC1 rfl ⟨rfl, ?_⟩
  have hcl : clsIn K C = some { name := nm, bases := bs, mro := .ref C :: bm, ns := N, qualname := q, hasDict := true, slotNames := sn, subclasses := sub, abstract := ab, collection := col, hasDel := false } := by unfold clsIn; rw [hC] <;> rfl
  have hmro : mroIn K C (.ref C) = some true := by
    unfold mroIn
    rw [hcl]
    show (if List.isEmpty (Value.ref C :: bm) = true then none else some (List.contains (Value.ref C :: bm) (Value.ref C))) = some true
    rw [if_neg (by simp)]
    simp
  refine ks_wpAny_call_super (ox := excO C t0) hC1 rfl hx rfl (fun c e => by cases e) (looks_mroIn X hmro) (fun h' e k => ?_)
  -- the method
  have X' : K.In h' := X.keeps k
  have hx' := k _ _ hx
  have I' : InstAt h' x (excO C t0) C none := ⟨hx', rfl, rfl, trivial⟩
  have hI : Looks (model prog w) h' (isInstance (.ref x) (.type "ValueError")) true := I'.type.andThen (looks_subIn X' T0.veC)
  have hsup := T.sup
  unfold ks_superIn at hsup
  rw [hcl] at hsup
  refine kxs_getMethod kxs_ValueError e (looks_opaque X' T0.op) (l₀ := .ref C :: bm) (fun A Q E s k q => wpAny_bind ((looks_clsIn X' hcl) A _ E s k (wpAny_pure q))) rfl X' hsup hI (ks_ne X' I' hcl) (by decide) ?_
  have k2 : ∀ b o, hh.get? b = some o → (h'.push (kxs_mw "ValueError.__init__" x)).get? b = some o := fun b o z => Heap.get?_push_of_some _ (k b o z)
  have hst : starEach [.Constant (.str msg) j p3] (envX qual scope L fI (.ref cda) [("__class__", cc)]) = (false, eval (.Constant (.str msg) j p3) (envX qual scope L fI (.ref cda) [("__class__", cc)])) :: [] := rfl
  show wpAny _ _ (callWith p4 (.ref h'.objs.size) [] (backTo p4 (starEach [.Constant (.str msg) j p3] (envX qual scope L fI (.ref cda) [("__class__", cc)]))) []) _ _ _
  rw [hst]
  refine kxs_callWith (i := "ValueError.__init__") (x := x) (by rfl) ?_
  refine evalArgs_plain ?_
  show wpAny _ _ (spliced ((false, eval (.Constant (.str msg) j p3) _) :: [])) _ _ _
  refine Calls.spliced_cons (Calls.Constant_str (Calls.spliced_nil ⟨Heap.get?_push_at rfl rfl, ?_⟩))
  exact call_mw (k2 _ _ hC1) (k2 _ _ hx) (Heap.get?_push_at rfl rfl) (by show 1 ≤ sizeLine; rw [sizeLine_eq]; decide) (fun h2 t1 k3 hx2 => hq h2 _ t1 (fun b o hb z => k3 b o hb (k2 b o z)) hx2)
end

/-- what __init__ leaves of a fresh exception at x -/
structure InitEnd (h h' : Heap) (x C dx t1 : Addr) (f : Str) (v : Value) : Prop where
  keep : ∀ b o, b ≠ x → h.get? b = some o → h'.get? b = some o
  obj : h'.get? x = some { cls := .ref C, dict := some dx, data := .fields #[.ref t1, .none, .none, .none, .bool false, .none] }
  dbig : h.objs.size ≤ dx
  dne : dx ≠ x
  ns : h'.Ns1 dx (fun y => if y = f then some v else none)
structure InitEnd0 (h h' : Heap) (x C t1 : Addr) : Prop where
  keep : ∀ b o, b ≠ x → h.get? b = some o → h'.get? b = some o
  obj : h'.get? x = some { cls := .ref C, data := .fields #[.ref t1, .none, .none, .none, .bool false, .none] }
/-- the globals that an __init__ looks at -/
structure Gls (h : Heap) (mg : Str → Option Value) : Prop where
  g : h.Ns mainGlobals mg
  s : mg "super" = none
  b : ∃ mb, h.Ns builtinsNs mb ∧ mb "super" = some (.type "super")
theorem Gls.keeps {h h' : Heap} {mg : Str → Option Value} (G : Gls h mg) (k : ∀ b o, h.get? b = some o → h'.get? b = some o) : Gls h' mg := ⟨G.g.keeps k, G.s, let ⟨mb, a, b⟩ := G.b; ⟨mb, a.keeps k, b⟩⟩
/-- the scope's and parameters' facts -/
structure ScB (scope : Scope) (params : Arguments) : Prop where
  hk : scope.kind = .function
  hks : scope.names.lookup ("super" : Str) = some .globalImplicit
  hkc : scope.names.lookup ("__class__" : Str) = some .free
  hka : scope.names.lookup ("self" : Str) = some .local
  hp : ∃ a0, (params.posonlyargs ++ params.args).head? = some a0 ∧ a0.arg = "self"
  hcell : ∀ x ∈ scope.names, x.2 ≠ .cell
structure ScI (scope : Scope) (params : Arguments) (g : Str) : Prop extends ScB scope params where
  hkg : scope.names.lookup g = some .local
  hgs : ("self" : Str) ≠ g
  hgd : (g == ("__debug__" : Str)) = false
section
variable {prog : Program} {w : World} {A : Around} {E : Value → Shared → Prop} {R : Result → Shared → Prop} {s : Shared} {K : Frag} {mg : Str → Option Value} {C fI cc cda : Addr} {params : Arguments} {scope : Scope}
theorem ldX {M : Model} {env : Env} {m : Str → Option Value} {x : Str} {pos : Pos} {v : Value} {Q : Value → Shared → Prop} (hn : s.heap.Ns env.locals m) (hv : m x = some v) (h : Q v s)
    (hk : env.scope.kind = .function) (hl : env.kindOf x = some .local) (hd : (x == ("__debug__" : Str)) = false) : wpAny M A (eval (.Name x pos) env) Q E s := wpAny_Name (wpAny_loadName_local hk hl hn hv h) hd
theorem exc_init1 {msg f g : Str} {j : Nat} {p0 p1 p2 p3 p4 p5 q0 q1 q2 q3 : Pos} {x t0 : Addr} {v : Value} (T0 : ExC K C) (T : ExF prog K C fI cc cda params (exBody1 msg f g j p0 p1 p2 p3 p4 p5 q0 q1 q2 q3) scope) (S : ScI scope params g) (hev : SupOk scope cc cda fI msg j p0 p1 p2 p3 p4 p5)
    (hno : findIn K (.ref C) f = some none) (hgen : scope.isGenerator = false) (hco : scope.isCoroutine = false)
    (hbind : ∀ (name qual : Str) (body : List Stmt) (kV doc pm ct : Value) (an : Option Addr), bindArgs (fnX name qual params body scope [("__class__", cc)] .none kV doc pm an (.ref cda) ct) ⟨[.ref x, v], []⟩ = pure [(("self" : Str), Value.ref x), (g, v)])
    (X : K.In s.heap) (G : Gls s.heap mg) (hlim : s.heap.NoLimit) (hx : s.heap.get? x = some (excO C t0)) (hnx : K.lookup x = none) (hroom : A.depth < recursionLimit) 
    (hq : ∀ h' tk dx t1, InitEnd s.heap h' x C dx t1 f v → R (.ok (.ret .none)) { s with heap := h', toks := tk }) :
    codeAny (model prog w) A (.call (.ref fI) ⟨[.ref x, v], []⟩) R s := by
  obtain ⟨oc, od, name, qual, kV, doc, pm, ct, an, osl, hf, hcd⟩ := T.fn
  obtain ⟨nm, q, N, bs, bm, sn, sub, ab, col, dd, k0, k1, k2, k3, k5, hC, hbm⟩ := T0.cls
  obtain ⟨a0, hp, ha0⟩ := S.hp
  have hcl : clsIn K C = some { name := nm, bases := bs, mro := .ref C :: bm, ns := N, qualname := q, hasDict := true, slotNames := sn, subclasses := sub, abstract := ab, collection := col, hasDel := false } := by unfold clsIn; rw [hC] <;> rfl
  refine ks_codeAny_call_defAt hroom (X _ _ hf) rfl hlim (codeRec_of X hcd) rfl (.of_eq (hbind _ _ _ _ _ _ _ _)) S.hcell (fun y hy => ?_) (fun h0 hns k => ?_) hco hgen S.hk
  · simp only [List.mem_cons, List.not_mem_nil, or_false] at hy
    rcases hy with rfl | rfl
    · exact S.hka
    · exact S.hkg
  have m1 : (([("self", Value.ref x), (g, v)] : List (Str × Value)).reverse.lookup ("self" : Str)) = some (.ref x) := by
    show List.lookup ("self" : Str) [(g, v), ("self", Value.ref x)] = _
    have e : (("self" : Str) == g) = false := by simpa using S.hgs
    simp [List.lookup, e]
  have m2 : (([("self", Value.ref x), (g, v)] : List (Str × Value)).reverse.lookup g) = some v := by
    show List.lookup g [(g, v), ("self", Value.ref x)] = _
    simp [List.lookup]
  have hxL : s.heap.objs.size ≠ x := Nat.ne_of_gt (Heap.lt_size hx)
  refine ks_wpAt_execs_cons (sup_stmt T0 T (X.keeps k) (G.keeps k).g G.s (G.keeps k).b hns m1 (k _ _ hx) S.hk S.hks S.hkc S.hka hp ha0 hev (by show interactive _ = false; simp [interactive, S.hk]) (fun h1 tk t1 k1 hx1 => ?_))
  have X1 : K.In h1 := kept_but (X.keeps k) hnx k1
  have hns1 : h1.Ns s.heap.objs.size (fun y => (([("self", Value.ref x), (g, v)] : List (Str × Value)).reverse.lookup y)) := by
    obtain ⟨o, es, ep, ho, r⟩ := hns
    exact ⟨o, es, ep, k1 _ o hxL ho, r⟩
  refine _root_.PySem.wpAt_of_wpAny ?_
  refine wpAny_execs_cons (plainObj_wpAny_Assign_Attribute ?_ (by rfl))
  refine ldX (v := v) hns1 m2 (ldX (v := .ref x) hns1 m1 ?_ S.hk S.hka rfl) S.hk S.hkg S.hgd
  refine set_plain X1 (ox := excO C t1) (od := none) ⟨hx1, rfl, rfl, trivial⟩ T0.sa ?_
  refine exc_osa X1 hx1 hcl (show refsVE (.ref C :: bm) = true from hbm) rfl hno (fun h₃ tk₃ dx k₃ dn dne hx₃ hn₃ => ?_)
  refine wpAny_execs_nil (hq h₃ tk₃ dx t1 ⟨fun b o hb e => k₃ b o hb (k1 b o hb (k b o e)), hx₃, ?_, dne, hn₃⟩)
  obtain ⟨oL, _, _, hoL, _⟩ := hns1
  have z : s.heap.objs.size < h1.objs.size := Heap.lt_size hoL
  exact Nat.le_of_lt (Nat.lt_of_lt_of_le z dn)
theorem exc_init0 {msg : Str} {j : Nat} {p0 p1 p2 p3 p4 p5 : Pos} {x t0 : Addr} (T0 : ExC K C) (T : ExF prog K C fI cc cda params (exBody0 msg j p0 p1 p2 p3 p4 p5) scope) (S : ScB scope params) (hev : SupOk scope cc cda fI msg j p0 p1 p2 p3 p4 p5)
    (hgen : scope.isGenerator = false) (hco : scope.isCoroutine = false)
    (hbind : ∀ (name qual : Str) (body : List Stmt) (kV doc pm ct : Value) (an : Option Addr), bindArgs (fnX name qual params body scope [("__class__", cc)] .none kV doc pm an (.ref cda) ct) ⟨[.ref x], []⟩ = pure [(("self" : Str), Value.ref x)])
    (X : K.In s.heap) (G : Gls s.heap mg) (hlim : s.heap.NoLimit) (hx : s.heap.get? x = some (excO C t0)) (hnx : K.lookup x = none) (hroom : A.depth < recursionLimit)
    (hq : ∀ h' tk t1, InitEnd0 s.heap h' x C t1 → R (.ok (.ret .none)) { s with heap := h', toks := tk }) :
    codeAny (model prog w) A (.call (.ref fI) ⟨[.ref x], []⟩) R s := by
  obtain ⟨oc, od, name, qual, kV, doc, pm, ct, an, osl, hf, hcd⟩ := T.fn
  obtain ⟨a0, hp, ha0⟩ := S.hp
  refine ks_codeAny_call_defAt hroom (X _ _ hf) rfl hlim (codeRec_of X hcd) rfl (.of_eq (hbind _ _ _ _ _ _ _ _)) S.hcell (fun y hy => ?_) (fun h0 hns k => ?_) hco hgen S.hk
  · simp only [List.mem_cons, List.not_mem_nil, or_false] at hy
    subst hy
    exact S.hka
  have m1 : (([("self", Value.ref x)] : List (Str × Value)).reverse.lookup ("self" : Str)) = some (.ref x) := by
    show List.lookup ("self" : Str) [("self", Value.ref x)] = _
    simp [List.lookup]
  refine ks_wpAt_execs_cons (sup_stmt T0 T (X.keeps k) (G.keeps k).g G.s (G.keeps k).b hns m1 (k _ _ hx) S.hk S.hks S.hkc S.hka hp ha0 hev (by show interactive _ = false; simp [interactive, S.hk]) (fun h1 tk t1 k1 hx1 => ?_))
  refine _root_.PySem.wpAt_of_wpAny ?_
  exact wpAny_execs_nil (hq h1 _ t1 ⟨fun b o hb e => k1 b o hb (k b o e), hx1⟩)
end

/-- an exception class with one field f | with none -/
structure ExOne (P : Program) (K : Frag) (C : Addr) (f : Str) : Prop where
  c : ExC K C
  no : findIn K (.ref C) f = some none
  ex : ∃ (fI cc cda : Addr) (params : Arguments) (msg g : Str) (j : Nat) (p0 p1 p2 p3 p4 p5 q0 q1 q2 q3 : Pos) (scope : Scope), ExF P K C fI cc cda params (exBody1 msg f g j p0 p1 p2 p3 p4 p5 q0 q1 q2 q3) scope ∧ ScI scope params g ∧
    SupOk scope cc cda fI msg j p0 p1 p2 p3 p4 p5 ∧ scope.isGenerator = false ∧ scope.isCoroutine = false ∧
    ∀ (x : Addr) (v : Value) (name qual : Str) (body : List Stmt) (kV doc pm ct : Value) (an : Option Addr), bindArgs (fnX name qual params body scope [("__class__", cc)] .none kV doc pm an (.ref cda) ct) ⟨[.ref x, v], []⟩ = pure [(("self" : Str), Value.ref x), (g, v)]
structure ExZero (P : Program) (K : Frag) (C : Addr) : Prop where
  c : ExC K C
  ex : ∃ (fI cc cda : Addr) (params : Arguments) (msg : Str) (j : Nat) (p0 p1 p2 p3 p4 p5 : Pos) (scope : Scope), ExF P K C fI cc cda params (exBody0 msg j p0 p1 p2 p3 p4 p5) scope ∧ ScB scope params ∧
    SupOk scope cc cda fI msg j p0 p1 p2 p3 p4 p5 ∧ scope.isGenerator = false ∧ scope.isCoroutine = false ∧
    ∀ (x : Addr) (name qual : Str) (body : List Stmt) (kV doc pm ct : Value) (an : Option Addr), bindArgs (fnX name qual params body scope [("__class__", cc)] .none kV doc pm an (.ref cda) ct) ⟨[.ref x], []⟩ = pure [(("self" : Str), Value.ref x)]
/-- a made exception -/
structure OwnMade (h h' : Heap) (e C d : Addr) (f : Str) (v : Value) : Prop where
  keep : ∀ b o, h.get? b = some o → h'.get? b = some o
  new : h.objs.size ≤ e
  obj : ∃ oe vs, h'.get? e = some oe ∧ oe.cls = .ref C ∧ oe.dict = some d ∧ oe.data = .fields vs ∧ vs[1]? = some .none
  dbig : h.objs.size ≤ d
  dne : d ≠ e
  ns : h'.Ns1 d (fun y => if y = f then some v else none)
structure OwnMade0 (h h' : Heap) (e C : Addr) : Prop where
  keep : ∀ b o, h.get? b = some o → h'.get? b = some o
  new : h.objs.size ≤ e
  obj : ∃ oe vs, h'.get? e = some oe ∧ oe.cls = .ref C ∧ oe.dict = none ∧ oe.data = .fields vs ∧ vs[1]? = some .none
theorem one_size (v : Value) : [v].length ≤ sizeLine := by
  rw [sizeLine_eq]
  exact (by decide : 1 ≤ 16777216)
section
variable {prog : Program} {w : World} {A : Around} {E : Value → Shared → Prop} {R : Result → Shared → Prop} {s : Shared} {K : Frag} {mg : Str → Option Value} {C : Addr} {f : Str}
theorem exc_made1 (T : ExOne prog K C f) {v : Value} (X : K.In s.heap) (G : Gls s.heap mg) (hlim : s.heap.NoLimit) (hroom : A.depth + 1 < recursionLimit)
    (hq : ∀ h' tk e d, OwnMade s.heap h' e C d f v → R (.ok (.ret (.ref e))) { s with heap := h', toks := tk }) :
    codeAny (model prog w) A (.call (.ref C) ⟨[v], []⟩) R s := by
  obtain ⟨fI, cc, cda, params, msg, g, j, p0, p1, p2, p3, p4, p5, q0, q1, q2, q3, scope, TF, S, hev, hgen, hco, hbind⟩ := T.ex
  obtain ⟨nm, q, N, bs, bm, sn, sub, ab, col, dd, k0, k1, k2, k3, k5, hC, hbm⟩ := T.c.cls
  obtain ⟨hp, gg, dr, tk, os⟩ := s
  have k : ∀ b o, hp.get? b = some o → ((hp.push (kdv_tup [v])).push (excO C hp.objs.size)).get? b = some o := fun b o e => Heap.get?_push_of_some _ (Heap.get?_push_of_some _ e)
  have hget : ((hp.push (kdv_tup [v])).push (excO C hp.objs.size)).get? (hp.objs.size + 1) = some (excO C hp.objs.size) := by heap_get
  have hnx : K.lookup (hp.objs.size + 1) = none := by
    cases e : K.lookup (hp.objs.size + 1) with
    | none => rfl
    | some o =>
      have z : hp.get? (hp.objs.size + 1) = some o := X _ _ e
      exact absurd (Nat.lt_of_succ_lt (Heap.lt_size z)) (Nat.lt_irrefl _)
  refine call_own F.excBase_ValueError (fun X => refsVE_contains X bm hbm) (X _ _ hC) (looks_findIn X TF.iC) (fun self => bind_fn X self TF.tI) (one_size v) ?_
  refine exc_init1 (mg := mg) (s := ⟨(hp.push (kdv_tup [v])).push (excO C hp.objs.size), gg, dr, tk, os⟩) T.c TF S hev T.no hgen hco (fun name qual body kV doc pm ct an => hbind _ _ name qual body kV doc pm ct an) (X.keeps k) (G.keeps k) (hlim.keeps k) hget hnx ?_ fun h' tk' dx t1 ⟨k', hx, dn, dne, hns⟩ => ?_
  · show A.depth + 1 < recursionLimit
    exact hroom
  · have old : ∀ b o, hp.get? b = some o → h'.get? b = some o := fun b o e => k' b o (Nat.ne_of_lt (Nat.lt_succ_of_lt (Heap.lt_size e))) (k b o e)
    have z : hp.objs.size + 1 + 1 ≤ dx := by
      first
        | (simpa only [Heap.size_push] using dn)
        | exact dn
        | (have q := dn; rw [Heap.size_push, Heap.size_push] at q; exact q)
    exact ⟨rfl, hq h' tk' (hp.objs.size + 1) dx ⟨old, Nat.le_succ _, ⟨_, _, hx, rfl, rfl, rfl, rfl⟩, Nat.le_trans (Nat.le_trans (Nat.le_succ _) (Nat.le_succ _)) z, dne, hns⟩⟩
theorem exc_made0 (T : ExZero prog K C) (X : K.In s.heap) (G : Gls s.heap mg) (hlim : s.heap.NoLimit) (hroom : A.depth + 1 < recursionLimit)
    (hq : ∀ h' tk e, OwnMade0 s.heap h' e C → R (.ok (.ret (.ref e))) { s with heap := h', toks := tk }) :
    codeAny (model prog w) A (.call (.ref C) ⟨[], []⟩) R s := by
  obtain ⟨fI, cc, cda, params, msg, j, p0, p1, p2, p3, p4, p5, scope, TF, S, hev, hgen, hco, hbind⟩ := T.ex
  obtain ⟨nm, q, N, bs, bm, sn, sub, ab, col, dd, k0, k1, k2, k3, k5, hC, hbm⟩ := T.c.cls
  obtain ⟨hp, gg, dr, tk, os⟩ := s
  have k : ∀ b o, hp.get? b = some o → ((hp.push (kdv_tup [])).push (excO C hp.objs.size)).get? b = some o := fun b o e => Heap.get?_push_of_some _ (Heap.get?_push_of_some _ e)
  have hget : ((hp.push (kdv_tup [])).push (excO C hp.objs.size)).get? (hp.objs.size + 1) = some (excO C hp.objs.size) := by heap_get
  have hnx : K.lookup (hp.objs.size + 1) = none := by
    cases e : K.lookup (hp.objs.size + 1) with
    | none => rfl
    | some o =>
      have z : hp.get? (hp.objs.size + 1) = some o := X _ _ e
      exact absurd (Nat.lt_of_succ_lt (Heap.lt_size z)) (Nat.lt_irrefl _)
  refine call_own F.excBase_ValueError (fun X => refsVE_contains X bm hbm) (X _ _ hC) (looks_findIn X TF.iC) (fun self => bind_fn X self TF.tI) (by show 0 ≤ sizeLine; exact Nat.zero_le _) ?_
  refine exc_init0 (mg := mg) (s := ⟨(hp.push (kdv_tup [])).push (excO C hp.objs.size), gg, dr, tk, os⟩) T.c TF S hev hgen hco (fun name qual body kV doc pm ct an => hbind _ name qual body kV doc pm ct an) (X.keeps k) (G.keeps k) (hlim.keeps k) hget hnx ?_ fun h' tk' t1 ⟨k', hx⟩ => ?_
  · show A.depth + 1 < recursionLimit
    exact hroom
  · have old : ∀ b o, hp.get? b = some o → h'.get? b = some o := fun b o e => k' b o (Nat.ne_of_lt (Nat.lt_succ_of_lt (Heap.lt_size e))) (k b o e)
    exact ⟨rfl, hq h' tk' (hp.objs.size + 1) ⟨old, Nat.le_succ _, ⟨_, _, hx, rfl, rfl, rfl, rfl⟩⟩⟩
end
end Rz

namespace L2
open PySem PySem.Spec PyProof.Rows
theorem relO_one {v : V} {v' : Value} (r : RelV v v') (fl f : Str) : RelO (List.lookup f [(fl, v)]) (if f = fl then some v' else none) := by
  by_cases hw : f = fl
  · subst hw
    rw [if_pos rfl]
    have q : List.lookup f [(f, v)] = some v := by simp [List.lookup]
    rw [q]
    exact r
  · rw [if_neg hw]
    have qw : (f == fl) = false := by simpa using hw
    have q2 : List.lookup f [(fl, v)] = none := by simp [List.lookup, qw]
    rw [q2]
    trivial
section
variable {X : Cx} {C : Addr}
theorem Inv.gls {pins : List (Addr × Obj)} {σ : St} {H : Hp} {s : Shared} (I : Inv X pins σ H s) (hs : X.mg "super" = none) : Rz.Gls s.heap X.mg :=
  ⟨I.mod.glob.keeps I.bk, hs, let ⟨mb, h1, h2⟩ := I.mod.blt; ⟨mb, h1.keeps I.bk, (h2 "super" (by decide)).trans (by decide +kernel)⟩⟩
/-- C(e), an exception with one field -/
def tMkX (C : Addr) (f : Str) (ta : TA) : St → Hp → XK → Prop := fun σ H Q => ta σ H fun vs H1 => ∃ v, vs = [v] ∧ ∀ d, H1 d = none → Q (.ref C) (some d) (upd H1 d (.xd [(f, v)]))
theorem pmk_sup1 {x f : Str} {a : Expr} {ta : TA} {p pos : Pos} {k : Nat} (T : Rz.ExOne X.prog X.K C f) (hs : X.mg "super" = none) (hr : Room k X.A) (hg : Gl X x) (hm : X.mg x = some (.ref C)) (ha : PA X [a] ta)
    (hdb : (x == ("__debug__" : Str)) = false := by decide)
    (he : starEach (a :: []) X.env = (false, eval a X.env) :: starEach [] X.env := by rfl) (hpl : (backTo pos (starEach [] X.env)).any (·.1) = false := by rfl) :
    PMk X (.Call (.Name x p) [a] [] pos) (tMkX C f ta) := by
  intro pins s σ H Q I h
  refine wpAny_Call_Name_kw (ld_glob I hg hm ?_ hdb)
  refine PySem.W.callWith_K (h₀ := X.base) I.ok.mod.kin T.c.kC (thn (ha.run pos pins s σ H _ I h) fun us s1 hh => ?_) he hpl
  obtain ⟨vs, H1, I1, r1, v, ev, q1⟩ := hh
  subst ev
  refine ⟨I1.kIn, ?_⟩
  cases r1 with
  | cons rv rn =>
    rename_i v' us'
    cases rn
    show wpAny _ _ (call (.ref C) [v']) _ _ _
    have hlim := I1.nolimit
    have G := I1.gls hs
    obtain ⟨hp, g, dr, tk, os⟩ := s1
    refine wpAny_call (Rz.exc_made1 (mg := X.mg) T I1.kIn G hlim (by have := hr.dp; omega) fun h' tk' e d M => ?_)
    show MkP X pins σ Q (.ref e) ⟨h', g, dr, tk', os⟩
    obtain ⟨oe, fv, hoe, hc, hd, hdat, h1⟩ := M.obj
    have hns := M.ns
    obtain ⟨G', g1, g2⟩ := restrict h' fun b => decide (b ≠ e)
    have gk : ∀ b, b ≠ e → G'.get? b = h'.get? b := fun b hb => g1 b (decide_eq_true hb)
    have ge : G'.get? e = none := g2 e (by simp)
    have old : ∀ b o, hp.get? b = some o → G'.get? b = some o := fun b o q => (gk b (Nat.ne_of_lt (Nat.lt_of_lt_of_le (Heap.lt_size q) M.new))).trans (M.keep b o q)
    have hns' : G'.Ns1 d (fun y => if y = f then some v' else none) := by
      obtain ⟨o, es, ep, ho, r⟩ := hns
      exact ⟨o, es, ep, (gk d M.dne).trans ho, r⟩
    have J : Inv X pins σ (upd H1 d (.xd [(f, v)])) ⟨G', g, dr, tk', os⟩ := I1.laid (t' := tk') old M.dbig ⟨_, hns', relO_one rv f⟩
    refine ⟨e, oe, fv, ⟨G', g, dr, tk', os⟩, _, .ref C, some d, rfl, J, fun b o q => ?_, ge, hoe, ⟨hc, hd⟩, hdat, h1, ?_, rfl, J.bare, raises_own T.c.exC T.c.tyC, q1 d (I1.hok.fresh M.dbig)⟩
    · by_cases hb : b = e
      · have q' : G'.get? b = some o := q
        rw [hb, ge] at q'; cases q'
      · exact (gk b hb).symm.trans q
    · rw [upd_ne (Ne.symm M.dne)]
      exact I1.hok.fresh M.new
/-- C(), an exception without fields -/
def tMkX0 (C : Addr) : St → Hp → XK → Prop := fun _ H Q => Q (.ref C) none H
theorem pmk_sup0 {x : Str} {p pos : Pos} {k : Nat} (T : Rz.ExZero X.prog X.K C) (hs : X.mg "super" = none) (hr : Room k X.A) (hg : Gl X x) (hm : X.mg x = some (.ref C))
    (hdb : (x == ("__debug__" : Str)) = false := by decide) : PMk X (.Call (.Name x p) [] [] pos) (tMkX0 C) := by
  intro pins s σ H Q I h
  refine wpAny_Call_Name_kw (ld_glob I hg hm ?_ hdb)
  refine PySem.W.callWith_K0 I.kIn T.c.kC ?_
  have hlim := I.nolimit
  have G := I.gls hs
  obtain ⟨hp, g, dr, tk, os⟩ := s
  refine wpAny_call (Rz.exc_made0 (mg := X.mg) T I.kIn G hlim (by have := hr.dp; omega) fun h' tk' e M => ?_)
  show MkP X pins σ Q (.ref e) ⟨h', g, dr, tk', os⟩
  obtain ⟨oe, fv, hoe, hc, hd, hdat, h1⟩ := M.obj
  obtain ⟨G', g1, g2⟩ := restrict h' fun b => decide (b ≠ e)
  have gk : ∀ b, b ≠ e → G'.get? b = h'.get? b := fun b hb => g1 b (decide_eq_true hb)
  have ge : G'.get? e = none := g2 e (by simp)
  have old : ∀ b o, hp.get? b = some o → G'.get? b = some o := fun b o q => (gk b (Nat.ne_of_lt (Nat.lt_of_lt_of_le (Heap.lt_size q) M.new))).trans (M.keep b o q)
  have J : Inv X pins σ H ⟨G', g, dr, tk', os⟩ := I.kept (t' := tk') old
  refine ⟨e, oe, fv, ⟨G', g, dr, tk', os⟩, H, .ref C, none, rfl, J, fun b o q => ?_, ge, hoe, ⟨hc, hd⟩, hdat, h1, I.hok.fresh M.new, rfl, J.bare, raises_own T.c.exC T.c.tyC, h⟩
  by_cases hb : b = e
  · have q' : G'.get? b = some o := q
    rw [hb, ge] at q'; cases q'
  · exact (gk b hb).symm.trans q
end
end L2

/-! enumerate over a text. -/
namespace L2
open PySem PySem.Spec PyProof.Rows
/-- each sign of the text with its place, in new pairs -/
def Ites (x : Str) : It :=
  ⟨fun i _ => i < x.cps.size, fun i H v H' => ∃ T c, v = .ref T ∧ H T = none ∧ x.cps[i]? = some c ∧ H' = upd H T (.tup [.int (i : Nat), .str ⟨#[c]⟩]), fun i _ => i = x.cps.size⟩
theorem turn_enumS {P : Program} {w : World} {K : PySem.W.Frag} {elts : List Expr} {kk : Nat} {tpos : Pos} (x : Str) (t : Tok) (e it : Addr) :
    Turn P w K (.Tuple elts kk tpos) (Ites x) [e, it] e (fun i h => (∃ old, IsEnum h e it ((i : Nat) : Int) old) ∧ h.IsStrIter it (strIterType x) x t i ∧ e ≠ it) where
  mem := by simp
  obj := fun i h st b hb => by
    obtain ⟨⟨old, he⟩, ⟨o, ho, hc, hd⟩, _⟩ := st
    have e' : b = e ∨ b = it := by simpa using hb
    rcases e' with z | z
    · rw [z]; exact ⟨_, he, fun v q => nomatch q⟩
    · rw [z]; exact ⟨o, ho, fun v q => by rw [hd] at q; cases q⟩
  keep := fun i h h' st k => by
    obtain ⟨⟨old, he⟩, ⟨o, ho, r⟩, hne⟩ := st
    exact ⟨⟨old, k e (by simp) _ he⟩, ⟨o, k it (by simp) o ho, r⟩, hne⟩
  item := by
    intro X hP hw hK hc i pins s σ H E I hf st hg
    subst hP hw hK
    obtain ⟨⟨old, he⟩, hit, hne⟩ := st
    have hel : e < s.heap.objs.size := Heap.lt_size he
    have hil : it < s.heap.objs.size := by obtain ⟨_, q, _⟩ := hit; exact Heap.lt_size q
    have hh : X.A.in1.handled = none := I.ok.hd hc
    refine wpAny_pyNext_enum_itemD (Draws.text hh it x t) he hit hg hne (by simpa using hne) fun v h' tk hv ho hit' hT hsz hk => ?_
    obtain ⟨c, u, hcx, rfl⟩ := hv
    refine ⟨_, rfl, wpAny_letOwnedTupleGo_enum (s := { s with heap := h', toks := tk + 1 }) ho fun h'' he' sb => ?_⟩
    have hT2 : h''.get? s.heap.objs.size = some { cls := .type "tuple", data := .seq #[.int i tk, .str ⟨#[c]⟩ u] } := (sb.2 _ (Nat.ne_of_gt hel)).trans hT
    have new : ObjOk X.prog X.w (upd H s.heap.objs.size (.tup [.int (i : Nat), .str ⟨#[c]⟩])) h'' s.heap.objs.size (.tup [.int (i : Nat), .str ⟨#[c]⟩]) :=
      ⟨by show 2 ≤ sizeLine; decide, [.int i tk, .str ⟨#[c]⟩ u], .cons ⟨_, rfl⟩ (.cons ⟨_, rfl⟩ .nil), ⟨_, hT2, rfl, _, rfl⟩⟩
    have I1 : Inv X pins σ (upd H s.heap.objs.size (.tup [.int (i : Nat), .str ⟨#[c]⟩])) { s with heap := h'', toks := tk + 1 } :=
      I.turnedNew (ch := [e, it]) (fun b ob hb q => (sb.2 b (fun z => hb (by simp [z]))).trans (hk b ob (fun z => hb (by simp [z])) (fun z => hb (by simp [z])) q)) hf (Nat.le_refl _) new
    obtain ⟨oi, hoi, ri⟩ := hit'
    refine ⟨.ref s.heap.objs.size, _, I1, rfl, ⟨_, c, rfl, I.hok.fresh (Nat.le_refl _), hcx, rfl⟩, ⟨⟨.str ⟨#[c]⟩ u, ?_⟩, ⟨oi, (sb.2 it (Ne.symm hne)).trans hoi, ri⟩, hne⟩, fun b hb => ?_⟩
    · have e1 : ((i + 1 : Nat) : Int) = (i : Int) + 1 := by omega
      rw [e1]; exact he'
    · have hb' : b < s.heap.objs.size := by
        have e' : b = e ∨ b = it := by simpa using hb
        rcases e' with z | z
        · rw [z]; exact hel
        · rw [z]; exact hil
      rw [upd_ne (Nat.ne_of_lt hb')]
      exact (hf b hb).1
  done := by
    intro X hP hw hK hc i pins s σ H E I hf st hg
    subst hP hw hK
    obtain ⟨⟨old, he⟩, hit, hne⟩ := st
    have hg' : i = x.cps.size := hg
    subst hg'
    obtain ⟨f0, f1, f2, f3, f4, f5⟩ := hf it (by simp)
    have hh : X.A.in1.handled = none := I.ok.hd hc
    exact wpAny_pyNext_enum_endD (Draws.text hh it x t) he hit fun h' eb => ⟨rfl, I.turned (t' := s.toks) (fun b o hb q => eb b o hb q) f0 f1 f3 f4 f5⟩
  self := fun A i s Q E st h => let ⟨⟨_, he⟩, _⟩ := st; wpAny_pyIter_enum he h
def iEnumS (ta : TA) : TI := fun σ H R => ta σ H fun vs H1 => ∃ x, vs = [.str x] ∧ R (Ites x) H1
theorem pi_enumS {X : Cx} {e : Expr} {ta : TA} {p pos tpos : Pos} {elts : List Expr} {kk : Nat} (hg : Gl X "enumerate") (hm : X.mg "enumerate" = none) (ha : PA X [e] ta) (hs : starEach [e] X.env = [(false, eval e X.env)] := by rfl) :
    PI X (.Tuple elts kk tpos) (.Call (.Name "enumerate" p) [e] [] pos) (iEnumS ta) := by
  refine ⟨fun pins s σ H R I h => ?_⟩
  refine Call_ (ld_blt I hg hm boot_enumerate (PyProof.Rows.callWith_type1 (thn (ha.run pos pins s σ H _ I h) fun us s1 ⟨vs, H1, I1, r1, q1⟩ => ?_) hs rfl))
  obtain ⟨x, ex, q⟩ := q1
  subst ex
  cases r1 with
  | cons r rr =>
    cases rr
    obtain ⟨t, rfl⟩ := r
    refine call_enumerate_str fun h' he hit hsz hk => wpAny_pyIter_enum he ?_
    have I2 : Inv X pins σ H1 { s1 with heap := h' } := I1.kept (t' := s1.toks) hk
    refine ⟨s1.heap.objs.size + 1, [s1.heap.objs.size + 1, s1.heap.objs.size], _, _, H1, rfl, I2, turn_enumS x t (s1.heap.objs.size + 1) s1.heap.objs.size, ⟨⟨.none, he⟩, hit, Nat.succ_ne_self _⟩, fun b hb => ?_, q⟩
    have e' : b = s1.heap.objs.size + 1 ∨ b = s1.heap.objs.size := by simpa using hb
    have hle : s1.heap.objs.size ≤ b := by
      rcases e' with z | z
      · rw [z]; exact Nat.le_add_right _ _
      · rw [z]; exact Nat.le_refl _
    exact I1.fpOk hle (I1.hok.fresh hle)
end L2

/-! A try whose clauses may each have a name or none. An exception that has come to the frame is a package (Got); each way of a clause is a lemma over it. -/
namespace L2
open PySem PySem.Spec PyProof.Rows
abbrev TSu := Addr → Value → Option Addr → TS
/-- behind a clause with a name: its slot is empty again -/
def Ends.drop (D : Ends) (i : Nat) : Ends := { nx := fun σ H => D.nx (σ.set i none) H, rt := D.rt, bk := fun σ H => D.bk (σ.set i none) H, ct := fun σ H => D.ct (σ.set i none) H }
/-- one clause: the class it names, its slot, its suite -/
structure Clause where
  c : Value
  slot : Option Nat
  ts : TSu
def Clause.does (q : Clause) (cls : Value) (d : Option Addr) (D : Ends) (σ : St) (H : Hp) (a : Addr) : Prop :=
  match q.slot with
  | none => q.ts a cls d D σ H
  | some i => q.ts a cls d (D.drop i) (σ.set i (some (.ref a))) H
/-- what is wanted of an exception at these clauses -/
def wMix (K : PySem.W.Frag) (Wout : WX) (D : Ends) : List Clause → WX
  | [] => Wout
  | q :: r => fun cls d σ H => ∃ b, PySem.W.exmOne K cls q.c = some b ∧ (b = true → ∀ a, H a = none → q.does cls d D σ H a) ∧ (b = false → wMix K Wout D r cls d σ H)
/-- the suite of a clause keeps its reading, whatever exception is at hand -/
def SuiteOk (X : Cx) (suite : List Stmt) (ts : TSu) : Prop :=
  ∀ (a : Addr) (oe : Obj) (cls : Value) (d : Option Addr) (pn : List (Addr × Obj)), Zc cls d oe → (∃ vs, oe.data = .fields vs) → PSs (X.suite a ((a, oe) :: pn)) suite (ts a cls d)
inductive HdsMix (X : Cx) : List ExceptHandler → List Clause → Prop
  | nil : HdsMix X [] []
  | cons {x : Str} {c : Value} {ts : TSu} {b₀ : Stmt} {suite : List Stmt} {np p' : Pos} {hds : List ExceptHandler} {l : List Clause} (hc : Names X x c) (hsu : SuiteOk X (b₀ :: suite) ts) (r : HdsMix X hds l) :
      HdsMix X (.ExceptHandler (some (.Name x np)) none (b₀ :: suite) p' :: hds) (⟨c, none, ts⟩ :: l)
  | consA {x n : Str} {c : Value} {i : Nat} {ts : TSu} {b₀ : Stmt} {suite : List Stmt} {np p' : Pos} {hds : List ExceptHandler} {l : List Clause} (hi : X.N[i]? = some n) (hln : X.env.kindOf n = some .local) (hc : Names X x c) (hsu : SuiteOk X (b₀ :: suite) ts) (r : HdsMix X hds l) :
      HdsMix X (.ExceptHandler (some (.Name x np)) (some n) (b₀ :: suite) p' :: hds) (⟨c, some i, ts⟩ :: l)

/-- an exception at a has come to this frame, noted and with no flight: B the ground, sI the state without it -/
structure Got (X : Cx) (pins : List (Addr × Obj)) (σ : St) (H : Hp) (B : Heap) (sI s : Shared) (a : Addr) (cls : Value) (d : Option Addr) : Prop where
  inv : Inv X pins σ H sI
  nb : ∀ b o, sI.heap.get? b = some o → b ∉ frs X.stack → B.get? b = some o
  fl : HandSPX.FlyingZ B (X.env :: X.outer) a (Zc cls d) s.heap
  up : sI.heap.UpToSlots s.heap
  na : H a = none
  os : s.os = sI.os
  ag : AllBare s.gens
section
variable {X : Cx} {pins : List (Addr × Obj)} {σ : St} {H : Hp} {B : Heap} {sI s : Shared} {a : Addr} {cls : Value} {d : Option Addr}
theorem Got.here (g : Got X pins σ H B sI s a cls d) : Inv X pins σ H s := by
  obtain ⟨hh, gg, dd, tt, oo⟩ := s
  exact g.inv.landed g.nb g.fl.1 g.up g.os g.ag
/-- it is no frame of those that run -/
theorem Got.apart (g : Got X pins σ H B sI s a cls d) (hf : X.env.frame = some X.env.locals) : a ≠ X.env.locals ∧ a ∉ X.fs := by
  obtain ⟨oe, vs, he, _, hd⟩ := g.fl.there
  have no : a ∉ frs (X.env :: X.outer) := by
    intro hm
    obtain ⟨_, o', e', hnf⟩ := g.fl.2.2.1.mem hm
    rw [he] at e'
    cases e'
    exact hnf _ hd
  have eq : frs (X.env :: X.outer) = X.env.locals :: X.fs := by
    show List.filterMap _ _ = _
    rw [List.filterMap_cons, hf]
    rfl
  rw [eq] at no
  exact ⟨fun z => no (z ▸ List.mem_cons_self), fun z => no (List.mem_cons_of_mem _ z)⟩
/-- the state of a suite -/
theorem Got.suite (g : Got X pins σ H B sI s a cls d) (hf : X.env.frame = some X.env.locals) :
    ∃ oe, Zc cls d oe ∧ (∃ vs, oe.data = .fields vs) ∧ s.heap.get? a = some oe ∧ Inv (X.suite a ((a, oe) :: (X.pn ++ pins))) [] σ H s := by
  obtain ⟨oe, vs, he, hz, hd⟩ := g.fl.there
  exact ⟨oe, hz, ⟨vs, hd⟩, he, g.here.suite he hd g.na (g.apart hf).1 (g.apart hf).2⟩
/-- no clause took it -/
theorem Got.passes (g : Got X pins σ H B sI s a cls d) (hs : X.stack = X.env :: X.outer) (hf : X.env.frame = some X.env.locals) {W : WX} (tk : Takes X W) (hw : W cls d σ H) {Q : Flow → Shared → Prop} :
    wpAny (model X.prog X.w) X.A (handleBy (.ref a) X.env []) Q X.xe s := by
  refine wpAny_handleBy_nil ?_
  have on : wpAny (model X.prog X.w) X.A (setFlight (.ref a) X.env.frame) (fun _ s4 => wpAny (model X.prog X.w) X.A (throw (.ref a) : Sem Flow) Q X.xe s4) X.xe s := by
    rw [hf]
    refine HandSPX.setFlight_upZ g.fl fun h4 held up4 => wpAny_throw (tk _ _ ?_)
    refine ⟨a, B, sI, pins, σ, H, cls, d, rfl, g.inv, g.nb, g.up.trans up4, .inr (.inr ?_), g.na, g.os, g.ag, hw⟩
    rw [hs]
    exact held
  obtain ⟨_, _, _, oe, vs, T, _, _, he, _, hd, h1, _⟩ := g.fl
  unfold PySem.passOn
  refine wpAny_bind (wpAny_field he hd h1 ?_)
  rw [if_neg (by simp)]
  first
    | exact wpAny_bind (wpAny_pure (wpAny_bind on))
    | exact wpAny_bind on
/-- the clause's class is looked up and held against the exception's -/
theorem Got.asked (g : Got X pins σ H B sI s a cls d) (hf : X.env.frame = some X.env.locals) {x : Str} {c : Value} {np : Pos} {b : Bool} (hc : Names X x c) (hb : PySem.W.exmOne X.K cls c = some b) {Q : Bool → Shared → Prop} {E : Value → Shared → Prop} (hq : Q b s) :
    wpAny (model X.prog X.w) (X.A.mark (some (.ref a))) (eval (.Name x np) X.env) (fun v s1 => wpAny (model X.prog X.w) (X.A.mark (some (.ref a))) (excMatches (.ref a) v) Q E s1) E s := by
  obtain ⟨oe, hz, _, he, S⟩ := g.suite hf
  have L := PySem.W.exm_one (M := model X.prog X.w) g.here.kIn (fun A Q E s k q => wpAny_typeOf_ref (k _ _ he) (by rw [hz.1]; exact q)) hb
  obtain ⟨h1, h2, h3⟩ := hc
  rcases h3 with h3 | ⟨h3, h4, h5⟩
  · exact ld_glob (X := X.suite a ((a, oe) :: (X.pn ++ pins))) S h1 h3 (L.here hq) h2
  · exact ld_blt (X := X.suite a ((a, oe) :: (X.pn ++ pins))) S h1 h3 h4 (L.here hq) h5 h2
theorem Got.again (g : Got X pins σ H B sI s a cls d) {Q : Unit → Shared → Prop} {M : Model} {A : Around} {E : Value → Shared → Prop} (k : ∀ h', Got X pins σ H B sI { s with heap := h' } a cls d → Q () { s with heap := h' }) : wpAny M A (setFlight (.ref a) none) Q E s :=
  HandSPX.lands_againZ g.fl fun h4 fl4 up4 => k h4 ⟨g.inv, g.nb, fl4, g.up.trans up4, g.na, g.os, g.ag⟩
theorem SP.unsuite {pn : List (Addr × Obj)} {q : Addr × Obj} {D : Ends} {f : Flow} {s' : Shared} (ok : X.Ok) (h : SP (X.suite a (q :: (X.pn ++ pins))) pn D f s') : SP X pins D f s' := by
  cases f with
  | next => exact let ⟨σ', H', I, z⟩ := h; ⟨σ', H', I.unsuite ok, z⟩
  | brk => exact let ⟨σ', H', I, z⟩ := h; ⟨σ', H', I.unsuite ok, z⟩
  | cont => exact let ⟨σ', H', I, z⟩ := h; ⟨σ', H', I.unsuite ok, z⟩
  | ret u => exact let ⟨v, σ', H', I, r, z⟩ := h; ⟨v, σ', H', I.unsuite ok, r, z⟩
theorem SP.ofTry {pn : List (Addr × Obj)} {xe : Value → Shared → Prop} {D : Ends} {f : Flow} {s' : Shared} (ok : X.Ok) (h : SP (X.tr (X.pn ++ pins) xe) pn D f s') : SP X pins D f s' := by
  cases f with
  | next => exact let ⟨σ', H', I, z⟩ := h; ⟨σ', H', I.ofTry ok, z⟩
  | brk => exact let ⟨σ', H', I, z⟩ := h; ⟨σ', H', I.ofTry ok, z⟩
  | cont => exact let ⟨σ', H', I, z⟩ := h; ⟨σ', H', I.ofTry ok, z⟩
  | ret u => exact let ⟨v, σ', H', I, r, z⟩ := h; ⟨v, σ', H', I.ofTry ok, r, z⟩
/-- behind a suite with a name the name goes -/
theorem SP.unname {D : Ends} {i : Nat} {n : Str} {p' : Pos} {f : Flow} {s' : Shared} (hN : X.N.Nodup) (hi : X.N[i]? = some n) (hln : X.env.kindOf n = some .local) (h : SP X pins (D.drop i) f s') :
    wpAny (model X.prog X.w) X.A (do bindName X.env n .none; unbindBehindTheSuite X.env n p') (fun _ s7 => SP X pins D f s7) X.xe s' := by
  cases f with
  | next => exact let ⟨_, _, I, z⟩ := h; gone_ok I hN hi hln fun _ J => ⟨_, _, J, z⟩
  | brk => exact let ⟨_, _, I, z⟩ := h; gone_ok I hN hi hln fun _ J => ⟨_, _, J, z⟩
  | cont => exact let ⟨_, _, I, z⟩ := h; gone_ok I hN hi hln fun _ J => ⟨_, _, J, z⟩
  | ret u => exact let ⟨_, _, _, I, r, z⟩ := h; gone_ok I hN hi hln fun _ J => ⟨_, _, _, J, r, z⟩
/-- all clauses -/
theorem Got.clauses (hs : X.stack = X.env :: X.outer) (hf : X.env.frame = some X.env.locals) (hN : X.N.Nodup) {W : WX} (tk : Takes X W) {D : Ends} {hds : List ExceptHandler} {l : List Clause} (hk : HdsMix X hds l) :
    ∀ {s : Shared}, Got X pins σ H B sI s a cls d → wMix X.K W D l cls d σ H → wpAny (model X.prog X.w) X.A (handleBy (.ref a) X.env hds) (SP X pins D) X.xe s := by
  induction hk with
  | nil => exact fun g w => g.passes hs hf tk w
  | cons hc hsu _ ih =>
    intro s g w
    obtain ⟨b, hb, yes, no⟩ := w
    refine wpAny_handleBy_cons (codeAny_handlers_test (g.asked hf hc hb ?_)) (by intro q; cases q)
    cases b
    · exact ih g (no rfl)
    · refine codeAny_handlers_suite (g.again fun h4 g4 => ?_)
      obtain ⟨oe, hz, hd, he, S⟩ := g4.suite hf
      exact wpAny_mono ((hsu a oe cls d _ hz hd).run [] _ σ H D S (yes rfl a g.na)) (fun _ _ z => z.unsuite g.inv.ok) fun _ _ z => z.elim
  | consA hi hln hc hsu _ ih =>
    intro s g w
    obtain ⟨b, hb, yes, no⟩ := w
    refine wpAny_handleBy_cons (codeAny_handlers_test (g.asked hf hc hb ?_)) (by intro q; cases q)
    cases b
    · exact ih g (no rfl)
    · refine codeAny_handlers_suite_as (g.again fun h4 g4 => ?_)
      obtain ⟨oe, hz, hd, he, S⟩ := g4.suite hf
      refine store_ok (X := X.suite a ((a, oe) :: (X.pn ++ pins))) (v := .ref a) S hN hi (.inl hln) rfl (fun s5 S5 => ?_) (.inr hln)
      exact wpAny_mono ((hsu a oe cls d _ hz hd).run [] s5 _ H _ S5 (yes rfl a g.na)) (fun _ _ z => (z.unsuite g.inv.ok).unname hN hi hln) fun _ _ z => z.elim
/-- THE RULE -/
theorem ps_try_mix {body : List Stmt} {h₀ : ExceptHandler} {hds : List ExceptHandler} {l : List Clause} {pos : Pos} {tb : WX → TS} {Wout : WX} (hs : X.stack = X.env :: X.outer) (hf : X.env.frame = some X.env.locals) (hN : X.N.Nodup) (tk : Takes X Wout)
    (hb : ∀ (W : WX) (pn : List (Addr × Obj)) (xe : Value → Shared → Prop), Takes (X.tr pn xe) W → PassesOwn (model X.prog X.w) X.A X.env xe → PSs (X.tr pn xe) body (tb W)) (hh : HdsMix X (h₀ :: hds) l) :
    PS X (.Try body (h₀ :: hds) [] [] pos) (fun D σ H => tb (wMix X.K Wout D l) D σ H) := by
  constructor
  intro pins s σ H D I h
  refine wpAny_Try_except (wpAny_mono ((hb (wMix X.K Wout D l) (X.pn ++ pins) _ ?_ PassesOwn.looking).run [] s σ H D (I.toTry _) h) (fun f s1 z => ?_) fun _ _ z => z)
  · rintro u s' ⟨a, B, sI, pins', σ', H', cls, d, rfl, J', nb, up, sky, na, os, ag, w⟩
    have J : Inv X pins σ' H' sI := J'.ofTry I.ok
    have sky' : Sky B (X.env :: X.outer) a (Zc cls d) X.env.locals s'.heap := by
      rw [← hs]
      exact sky
    show wpAny (model X.prog X.w) X.A (noteFrame (.ref a) X.env) _ _ _
    refine Sky.land Zc.steady (by rw [I.ok.frames, hs]) hf sky' fun h3 fl3 up3 => ?_
    exact Got.clauses hs hf hN tk hh ⟨J, nb, fl3, up.trans up3, na, os, ag⟩ w
  · have z' := z.ofTry I.ok
    cases f with
    | next => exact wpAny_execs_nil z'
    | brk => exact z'
    | cont => exact z'
    | ret u => exact z'
end
end L2

/-! Calls of defs, methods and classes of the program; what they raise is wished for at the caller's slots. -/
namespace L2
open PySem PySem.Spec PyProof.Rows
section
variable {X : Cx} {CX : CXT} {k : Nat} {f C : Addr} {fd : FuncData} {ps : List Str} {sp : Sp} {dvs : List V} {ds : List Value} {E : St → XK} {x m : Str} {p pos apos : Pos} {e o : Expr} {es : List Expr} {ta : TE} {t : TA}
theorem pe_call0S (F : FnOk X.prog X.w X.K X.mg X.base CX k f fd ps sp) (hr : Room k X.A) (hg : Gl X x) (hm : X.mg x = some (.ref f)) (hk : PySem.W.keepIn X.K (.ref f) = true) (hb : Binds X.K fd ps ds) (hd : Vals dvs ds) (hx : ∀ σ, PassesAt CX X σ (E σ))
    (hdb : (x == ("__debug__" : Str)) = false := by decide) : PE X (.Call (.Name x p) [] [] pos) (tCallSD sp dvs E tNil) :=
  ⟨fun _ _ σ _ _ I h => wpAny_Call_Name_kw (ld_glob I hg hm (PySem.W.callWith_K0 I.kIn hk (run_fnSD (us := []) F hr hb hd (hx σ) I .nil h)) hdb)⟩
/-- o.m(..) -/
def tMethZ (C : Addr) (m : Str) (sp : Sp) (dvs : List V) (E : St → XK) (ta : TE) (t : TA) : TE := fun σ H Q => ta σ H fun y H1 => ∃ a dx fs, y = .ref a ∧ H1 a = some (.ins C dx fs) ∧ fs.lookup m = none ∧
  t σ H1 fun vs H2 => sp (y :: (vs ++ dvs)) H2 Q (E σ)
/-- C(..) -/
def tMakeS (C : Addr) (sp : Sp) (dvs : List V) (E : St → XK) (t : TA) : TE := fun σ H Q => t σ H fun vs H1 => ∀ y dx, H1 y = none → H1 dx = none → dx ≠ y →
  sp (.ref y :: (vs ++ dvs)) (upd (upd H1 dx (.own y)) y (.ins C dx [])) (fun v H2 => v = .non ∧ Q (.ref y) H2) (E σ)
theorem pe_methZ {pl : Sem Bool} (he : PE X o ta) (c : Cls X.K C) (hm : Meth X.K C m f) (F : FnOk X.prog X.w X.K X.mg X.base CX k f fd ps sp) (hr : Room k X.A) (hb : Binds X.K fd ps ds) (hd : Vals dvs ds) (hx : ∀ σ, PassesAt CX X σ (E σ)) (ha : PA X (e :: es) t)
    (hst : starEach (e :: es) X.env = (false, eval e X.env) :: starEach es X.env := by rfl) (hpl : (backTo pos (starEach es X.env)).any (·.1) = false := by rfl)
    (ht : eval (.Call (.Attribute o m apos) (e :: es) [] pos) X.env = (eval o X.env >>= fun ov => standAt apos.atName >>= fun _ => holding [ov] (getMethod ov m pl) >>= fun ff => callWith pos ff.1 ff.2 (backTo pos (starEach (e :: es) X.env)) (backToKw pos (keywordEach [] X.env))) := by rfl) :
    PE X (.Call (.Attribute o m apos) (e :: es) [] pos) (tMethZ C m sp dvs E ta t) := by
  constructor
  intro pins s σ H Q I h
  refine PySem.W.methodCall_KW (pl := pl) (thn (he.run pins s σ H _ I h) ?_) ht
  rintro u s1 ⟨y, H1, I1, ry, a, dx, fs, rfl, ea, l, q⟩
  cases ry
  refine getmeth_ok I1 ea c hm l (PySem.W.callWith_K (first := [.ref a]) (h₀ := X.base) I.ok.mod.kin hm.kp (thn (ha.run pos pins s1 σ H1 _ I1 q) ?_) hst hpl)
  rintro us s2 ⟨vs, H2, I2, r, q2⟩
  exact ⟨I2.kIn, run_fnSD (us := .ref a :: us) (vs := .ref a :: vs) F hr hb hd (hx σ) I2 (.cons rfl r) q2⟩
theorem pe_meth0Z {pl : Sem Bool} (he : PE X o ta) (c : Cls X.K C) (hm : Meth X.K C m f) (F : FnOk X.prog X.w X.K X.mg X.base CX k f fd ps sp) (hr : Room k X.A) (hb : Binds X.K fd ps ds) (hd : Vals dvs ds) (hx : ∀ σ, PassesAt CX X σ (E σ))
    (ht : eval (.Call (.Attribute o m apos) [] [] pos) X.env = (eval o X.env >>= fun ov => standAt apos.atName >>= fun _ => holding [ov] (getMethod ov m pl) >>= fun ff => callWith pos ff.1 ff.2 (backTo pos (starEach [] X.env)) (backToKw pos (keywordEach [] X.env))) := by rfl) :
    PE X (.Call (.Attribute o m apos) [] [] pos) (tMethZ C m sp dvs E ta tNil) := by
  constructor
  intro pins s σ H Q I h
  refine PySem.W.methodCall_KW (pl := pl) (thn (he.run pins s σ H _ I h) ?_) ht
  rintro u s1 ⟨y, H1, I1, ry, a, dx, fs, rfl, ea, l, q⟩
  cases ry
  exact getmeth_ok I1 ea c hm l (PySem.W.callWith_K0 (first := [.ref a]) I1.kIn hm.kp (run_fnSD (us := [.ref a]) (vs := [.ref a]) F hr hb hd (hx σ) I1 (.cons rfl .nil) q))
theorem run_makeS {pins : List (Addr × Obj)} {σ : St} {H : Hp} {s : Shared} {Q : VK} {us : List Value} {vs : List V} (M : Mk X.K C f) (F : FnOk X.prog X.w X.K X.mg X.base CX k f fd ps sp) (hr : Room (k + 1) X.A) (hb : Binds X.K fd ps ds) (hd : Vals dvs ds)
    (hx : PassesAt CX X σ (E σ)) (I : Inv X pins σ H s) (r : Vals vs us)
    (h : ∀ y dx, H y = none → H dx = none → dx ≠ y → sp (.ref y :: (vs ++ dvs)) (upd (upd H dx (.own y)) y (.ins C dx [])) (fun v H2 => v = .non ∧ Q (.ref y) H2) (E σ)) :
    wpAny (model X.prog X.w) X.A (call (.ref C) us) (EP X pins σ Q) X.xe s := by
  have I2 := Inv.made (C := C) I
  have q := h (s.heap.objs.size + 1) s.heap.objs.size (I.hok.fresh (Nat.le_succ _)) (I.hok.fresh (Nat.le_refl _)) (Nat.ne_of_lt (Nat.lt_succ_self _))
  have rr : Vals (V.ref (s.heap.objs.size + 1) :: (vs ++ dvs)) (Value.ref (s.heap.objs.size + 1) :: us ++ ds) := .cons rfl (r.append hd)
  have hl : (Value.ref (s.heap.objs.size + 1) :: us ++ ds).length = ps.length := rr.length.symm.trans (F.len _ _ _ _ q)
  have run := F.run _ X.stack _ _ ⟨Value.ref (s.heap.objs.size + 1) :: us, []⟩ _ _ _ (E σ) (hr.make C us []) (I2.env0.make C us []) (hb _ (Value.ref (s.heap.objs.size + 1) :: us) I2.kIn hl) rr q
  refine wpAny_call (make_map (f := f) I.kIn M.makes M.init (beq_iff_eq.mp M.fn) (codeAny_mono run ?_))
  intro res s' hq
  match res, hq with
  | .error e, hq => exact hx pins _ _ e s' I2 hq
  | .ok (.ret u), hq =>
    obtain ⟨v, H', I3, rv, ev, q3⟩ := I2.after hq
    subst ev
    exact ⟨rv, V.ref (s.heap.objs.size + 1), H', I3, rfl, q3⟩
  | .ok .next, hq => exact hq.elim
  | .ok .brk, hq => exact hq.elim
  | .ok .cont, hq => exact hq.elim
theorem pe_makeS (M : Mk X.K C f) (F : FnOk X.prog X.w X.K X.mg X.base CX k f fd ps sp) (hr : Room (k + 1) X.A) (hg : Gl X x) (hm : X.mg x = some (.ref C)) (hb : Binds X.K fd ps ds) (hd : Vals dvs ds) (hx : ∀ σ, PassesAt CX X σ (E σ))
    (ha : PA X (e :: es) t) (hdb : (x == ("__debug__" : Str)) = false := by decide) (he : starEach (e :: es) X.env = (false, eval e X.env) :: starEach es X.env := by rfl) (hpl : (backTo pos (starEach es X.env)).any (·.1) = false := by rfl) :
    PE X (.Call (.Name x p) (e :: es) [] pos) (tMakeS C sp dvs E t) := by
  constructor
  intro pins s σ H Q I h
  refine wpAny_Call_Name_kw (ld_glob I hg hm (PySem.W.callWith_K (h₀ := X.base) I.ok.mod.kin M.kp (thn (ha.run pos pins s σ H _ I h) ?_) he hpl) hdb)
  rintro us s1 ⟨vs, H1, I1, r, q⟩
  exact ⟨I1.kIn, run_makeS M F hr hb hd (hx σ) I1 r q⟩
theorem pe_make0S (M : Mk X.K C f) (F : FnOk X.prog X.w X.K X.mg X.base CX k f fd ps sp) (hr : Room (k + 1) X.A) (hg : Gl X x) (hm : X.mg x = some (.ref C)) (hb : Binds X.K fd ps ds) (hd : Vals dvs ds) (hx : ∀ σ, PassesAt CX X σ (E σ))
    (hdb : (x == ("__debug__" : Str)) = false := by decide) : PE X (.Call (.Name x p) [] [] pos) (tMakeS C sp dvs E tNil) :=
  ⟨fun _ _ σ _ _ I h => wpAny_Call_Name_kw (ld_glob I hg hm (PySem.W.callWith_K0 I.kIn M.kp (run_makeS (us := []) M F hr hb hd (hx σ) I .nil h)) hdb)⟩
end
end L2

/-! Operators and built-ins by values, whatever the kinds of the operands; how a reading goes on is a lemma each. -/
namespace L2
open PySem PySem.Spec PyProof.Rows
abbrev Frg := PySem.W.Frag
/-! ### + -/
def rAddS : R2 := fun x y H Q => ∃ i j, x = .str i ∧ y = .str j ∧ i.length + j.length ≤ sizeLine ∧ Q (.str (i ++ j)) H
def rAddA : R2 := fun x y H Q => rI0 (fun i j => .int (i + j)) x y H Q ∨ rAddS x y H Q ∨ rCat x y H Q
theorem op_addA {X : Cx} : OpR X (binaryOp .Add) rAddA := op_add.or (OpR.or op_add_str op_cat)
theorem addA_int {i j : Int} {H : Hp} {Q : VK} (h : Q (.int (i + j)) H) : rAddA (.int i) (.int j) H Q := .inl ⟨_, _, rfl, rfl, h⟩
theorem addA_str {i j : Str} {H : Hp} {Q : VK} (hz : i.length + j.length ≤ sizeLine) (h : Q (.str (i ++ j)) H) : rAddA (.str i) (.str j) H Q := .inr (.inl ⟨_, _, rfl, rfl, hz, h⟩)
theorem addA_lst {a b : Addr} {xs ys : List V} {H : Hp} {Q : VK} (ha : H a = some (.lst xs)) (hb : H b = some (.lst ys)) (hz : xs.length + ys.length ≤ sizeLine) (h : ∀ p, H p = none → Q (.ref p) (upd H p (.lst (xs ++ ys)))) :
    rAddA (.ref a) (.ref b) H Q := .inr (.inr ⟨_, _, _, _, rfl, rfl, ha, hb, hz, h⟩)
/-! ### - // % ** -/
abbrev rSubA : R2 := rI0 fun i j => .int (i - j)
abbrev rDivA : R2 := rI CDivW fun i j => .int (i / j)
abbrev rModA : R2 := rI (fun _ j => 0 < j) fun i j => .int (i % j)
abbrev rPowA : R2 := rI CPow fun i j => .int (i ^ j.toNat)
theorem op_subA {X : Cx} : OpR X (binaryOp .Sub) rSubA := op_sub
theorem op_divA {X : Cx} : OpR X (binaryOp .FloorDiv) rDivA := op_fdivW
theorem op_modA {X : Cx} : OpR X (binaryOp .Mod) rModA := op_mod
theorem op_powA {X : Cx} : OpR X (binaryOp .Pow) rPowA := op_pow
/-! ### * -/
def repS (z : Str) (k : Nat) : Str := ⟨((List.replicate k z.cps.toList).flatten).toArray⟩
theorem fold_rep (z : Array Nat) : ∀ (n : Nat) (acc : Array Nat), (List.replicate n z).foldl (· ++ ·) acc = acc ++ ((List.replicate n z.toList).flatten).toArray
  | 0, acc => by simp
  | n + 1, acc => by
    rw [List.replicate_succ, List.foldl_cons, fold_rep z n, List.replicate_succ, List.flatten_cons]
    apply Array.ext'
    simp
theorem repS_length (z : Str) (k : Nat) : (repS z k).length = k * z.length := by
  show ((List.replicate k z.cps.toList).flatten).toArray.size = k * z.cps.size
  simp
def rRepS : R2 := fun x y H Q => ∃ z k, x = .str z ∧ y = .int k ∧ 0 ≤ k ∧ k ≤ 4096 ∧ z.length ≤ 4096 ∧ Q (.str (repS z k.toNat)) H
theorem op_repS {X : Cx} : OpR X (binaryOp .Mult) rRepS := by
  intro pins s σ H x y v u Q I rx ry h
  obtain ⟨z, k, rfl, rfl, h1, h2, h3, q⟩ := h
  obtain ⟨t, rfl⟩ := rx
  obtain ⟨t', rfl⟩ := ry
  have hs : sizeLine = 16777216 := sizeLine_eq
  by_cases k0 : k = 0
  · subst k0
    refine P.mul_str_none (by omega) (by omega) ?_
    have e0 : repS z (0 : Int).toNat = Str.empty := by show (⟨#[]⟩ : Str) = Str.empty; decide +kernel
    exact ⟨.str (repS z (0 : Int).toNat), H, I.tok _, ⟨_, by rw [e0]⟩, q⟩
  have hlen : z.length * k.toNat ≤ 16777216 := Nat.le_trans (Nat.mul_le_mul h3 (by omega : k.toNat ≤ 4096)) (by decide)
  refine P.mul_str (by rw [decide_eq_false (by omega), decide_eq_false (by omega)]; rfl) (fun _ _ => ?_) (fun _ _ => ?_) ?_
  · have hk : 0 < k := by omega
    have hd : (4096 : Int) ≤ (2 ^ 63 - 1) / k := by
      rw [Int.le_ediv_iff_mul_le hk]
      have : (4096 : Int) * k ≤ 4096 * 4096 := by omega
      omega
    omega
  · unfold PySem.Builtin.Str.tooLong
    rw [hs]
    exact decide_eq_false (by omega)
  · rw [if_neg (by omega)]
    by_cases hc : (k == 1 || z.length == 0) = true
    · rw [if_pos hc]
      have e : repS z k.toNat = z := by
        rcases Bool.or_eq_true_iff.mp hc with c | c
        · have : k = 1 := by simpa using c
          subst this
          unfold repS
          simp
        · have c0 : z.length = 0 := by simpa using c
          have hz : z.cps = #[] := Array.eq_empty_of_size_eq_zero c0
          obtain ⟨zc⟩ := z
          simp only at hz
          subst hz
          unfold repS
          simp
      rw [e] at q
      exact ⟨.str z, H, I, ⟨t, rfl⟩, q⟩
    · rw [if_neg hc]
      have e : (⟨(List.replicate k.toNat z.cps).foldl (· ++ ·) #[]⟩ : Str) = repS z k.toNat := by
        unfold repS
        rw [fold_rep]
        simp
      refine ⟨?_, ?_⟩
      · rw [e, repS_length, hs]
        rw [Nat.mul_comm]
        exact hlen
      · rw [e]
        exact ⟨.str (repS z k.toNat), H, I.tok _, ⟨_, rfl⟩, q⟩
def rMulA : R2 := fun x y H Q => rI CMul (fun i j => .int (i * j)) x y H Q ∨ rRep x y H Q ∨ rRepS x y H Q
theorem op_mulA {X : Cx} : OpR X (binaryOp .Mult) rMulA := op_mul.or (OpR.or op_rep op_repS)
theorem mulA_int {i j : Int} {H : Hp} {Q : VK} (hc : CMul i j) (h : Q (.int (i * j)) H) : rMulA (.int i) (.int j) H Q := .inl ⟨_, _, rfl, rfl, hc, h⟩
theorem mulA_str {z : Str} {k : Int} {H : Hp} {Q : VK} (h1 : 0 ≤ k) (h2 : k ≤ 4096) (h3 : z.length ≤ 4096) (h : Q (.str (repS z k.toNat)) H) : rMulA (.str z) (.int k) H Q := .inr (.inr ⟨_, _, rfl, rfl, h1, h2, h3, h⟩)
/-! ### == and != -/
def rEqA (K : Frg) : R2 := fun x y H Q => rEq x y H Q ∨ rEqD K x y H Q
def rNeA (K : Frg) : R2 := fun x y H Q => rNe x y H Q ∨ rNeD K x y H Q
theorem op_eqA {X : Cx} {k : Nat} (hr : Room k X.A) : OpR X (compareOp .Eq) (rEqA X.K) := op_eq.or (op_eqD hr.units)
theorem op_neA {X : Cx} {k : Nat} (hr : Room k X.A) : OpR X (compareOp .NotEq) (rNeA X.K) := op_ne.or (op_neD hr.units)
theorem decI (i j : Int) : decide (V.int i = V.int j) = decide (i = j) := by rw [dec_int, Bool.beq_eq_decide_eq]
theorem decS (i j : Str) : decide (V.str i = V.str j) = decide (i = j) := by rw [dec_str, Bool.beq_eq_decide_eq]
theorem eqA_int {K : Frg} {i j : Int} {H : Hp} {Q : VK} (h : Q (.bl (decide (i = j))) H) : rEqA K (.int i) (.int j) H Q := .inl ⟨rfl, by rw [decI]; exact h⟩
theorem eqA_str {K : Frg} {i j : Str} {H : Hp} {Q : VK} (h : Q (.bl (decide (i = j))) H) : rEqA K (.str i) (.str j) H Q := .inl ⟨rfl, by rw [decS]; exact h⟩
theorem neA_int {K : Frg} {i j : Int} {H : Hp} {Q : VK} (h : Q (.bl (!decide (i = j))) H) : rNeA K (.int i) (.int j) H Q := .inl ⟨rfl, by rw [decI]; exact h⟩
theorem neA_str {K : Frg} {i j : Str} {H : Hp} {Q : VK} (h : Q (.bl (!decide (i = j))) H) : rNeA K (.str i) (.str j) H Q := .inl ⟨rfl, by rw [decS]; exact h⟩
theorem eqA_data {K : Frg} {x y : V} {d e : PyData} {b : Bool} {H : Hp} {Q : VK} (hd : Dp K H x d) (he : Dp K H y e) (sd : SeqAt.shaped d = true) (se : SeqAt.shaped e = true) (hb : PyData.eqv d e = b) (h : Q (.bl b) H) : rEqA K x y H Q :=
  .inr ⟨d, e, hd, he, sd, se, by rw [hb]; exact h⟩
theorem neA_data {K : Frg} {x y : V} {d e : PyData} {b : Bool} {H : Hp} {Q : VK} (hd : Dp K H x d) (he : Dp K H y e) (sd : SeqAt.shaped d = true) (se : SeqAt.shaped e = true) (hb : PyData.eqv d e = b) (h : Q (.bl (!b)) H) : rNeA K x y H Q :=
  .inr ⟨d, e, hd, he, sd, se, by rw [hb]; exact h⟩
/-! ### < <= > >= -/
def rLtS : R2 := fun x y H Q => ∃ i j, x = .str i ∧ y = .str j ∧ Q (.bl (decide (i.cps.toList < j.cps.toList))) H
def rLtA : R2 := fun x y H Q => rI0 (fun i j => .bl (decide (i < j))) x y H Q ∨ rLtS x y H Q
theorem op_ltA {X : Cx} : OpR X (compareOp .Lt) rLtA := op_lt.or op_lt_str
abbrev rLeA : R2 := rI0 fun i j => .bl (decide (i ≤ j))
abbrev rGtA : R2 := rI0 fun i j => .bl (decide (j < i))
abbrev rGeA : R2 := rI0 fun i j => .bl (decide (j ≤ i))
theorem op_leA {X : Cx} : OpR X (compareOp .LtE) rLeA := op_le
theorem op_gtA {X : Cx} : OpR X (compareOp .Gt) rGtA := op_gt
theorem op_geA {X : Cx} : OpR X (compareOp .GtE) rGeA := op_ge
theorem ltA_int {i j : Int} {H : Hp} {Q : VK} (h : Q (.bl (decide (i < j))) H) : rLtA (.int i) (.int j) H Q := .inl ⟨_, _, rfl, rfl, h⟩
theorem i0_go {g : Int → Int → V} {i j : Int} {H : Hp} {Q : VK} (h : Q (g i j) H) : rI0 g (.int i) (.int j) H Q := ⟨_, _, rfl, rfl, h⟩
theorem i_go {C : Int → Int → Prop} {g : Int → Int → V} {i j : Int} {H : Hp} {Q : VK} (hc : C i j) (h : Q (g i j) H) : rI C g (.int i) (.int j) H Q := ⟨_, _, rfl, rfl, hc, h⟩
/-! ### in, not in -/
def rInS : R2 := fun x y H Q => ∃ (c : Nat) (z : Str), x = .str ⟨#[c]⟩ ∧ y = .str z ∧ Q (.bl (decide (c ∈ z.cps.toList))) H
def rNotInS : R2 := fun x y H Q => ∃ (c : Nat) (z : Str), x = .str ⟨#[c]⟩ ∧ y = .str z ∧ Q (.bl (!decide (c ∈ z.cps.toList))) H
def rInT : R2 := fun x y H Q => ∃ i j, x = .str i ∧ y = .str j ∧ Q (.bl (!(Builtin.Str.occurrences j i 0 j.length 1).isEmpty)) H
def rInA (K : Frg) : R2 := fun x y H Q => rInS x y H Q ∨ rIn K false x y H Q ∨ rInT x y H Q
def rNotInA (K : Frg) : R2 := fun x y H Q => rNotInS x y H Q ∨ rIn K true x y H Q
theorem op_inA {X : Cx} : OpR X (compareOp .In) (rInA X.K) := op_in_sign.or (OpR.or op_in_seq op_in_str)
theorem op_notInA {X : Cx} : OpR X (compareOp .NotIn) (rNotInA X.K) := op_notIn_sign.or op_notIn_seq
theorem inA_sign {K : Frg} {c : Nat} {z : Str} {H : Hp} {Q : VK} (h : Q (.bl (decide (c ∈ z.cps.toList))) H) : rInA K (.str ⟨#[c]⟩) (.str z) H Q := .inl ⟨c, z, rfl, rfl, h⟩
theorem notInA_sign {K : Frg} {c : Nat} {z : Str} {H : Hp} {Q : VK} (h : Q (.bl (!decide (c ∈ z.cps.toList))) H) : rNotInA K (.str ⟨#[c]⟩) (.str z) H Q := .inl ⟨c, z, rfl, rfl, h⟩
theorem inA_seq {K : Frg} {x : V} {p : Addr} {xs : List V} {H : Hp} {Q : VK} (hp : SqL K H p xs ∨ SqT K H p xs) (hx : flatV x = true) (ha : xs.all flatV = true) (h : Q (.bl (inV x xs)) H) : rInA K x (.ref p) H Q := .inr (.inl ⟨p, xs, rfl, hp, hx, ha, h⟩)
/-! ### is None -/
def rIsN' : R2 := fun x y H Q => y = .non ∧ Q (.bl (decide (x = .non))) H
def rNotN' : R2 := fun x y H Q => y = .non ∧ Q (.bl (!decide (x = .non))) H
theorem op_isA {X : Cx} : OpR X (compareOp .Is) rIsN' := op_isN
theorem op_isNotA {X : Cx} : OpR X (compareOp .IsNot) rNotN' := op_notN
/-! ### subscripts -/
abbrev rIxA := rIx
theorem ixA_lst {K : Frg} {p : Addr} {xs : List V} {i : Int} {v : V} {H : Hp} {Q : VK} (hp : SqL K H p xs) (hi : atI xs i = some v) (h : Q v H) : rIx K (.ref p) (.int i) H Q := .inl ⟨p, xs, i, v, rfl, rfl, hp, hi, h⟩
theorem ixA_tup {K : Frg} {p : Addr} {xs : List V} {i : Int} {v : V} {H : Hp} {Q : VK} (hp : SqT K H p xs) (hi : atI xs i = some v) (h : Q v H) : rIx K (.ref p) (.int i) H Q := .inr (.inl ⟨p, xs, i, v, rfl, rfl, hp, hi, h⟩)
theorem ixA_str {K : Frg} {z : Str} {i : Int} {c : Nat} {H : Hp} {Q : VK} (hz : z.length ≤ sizeLine) (hi : atI z.cps.toList i = some c) (h : Q (.str ⟨#[c]⟩) H) : rIx K (.str z) (.int i) H Q := .inr (.inr ⟨z, i, c, rfl, rfl, hz, hi, h⟩)
abbrev SlV := V → Option Int → Option Int → Hp → VK → Prop
def rSlA (K : Frg) : SlV := fun x lo hi H Q => rSlS x lo hi H Q ∨ rSlL K x lo hi H Q
theorem sl_A {X : Cx} : SlR X (rSlA X.K) := sl_str.or sl_list
theorem slA_str {K : Frg} {z : Str} {lo hi : Option Int} {H : Hp} {Q : VK} (hz : z.length ≤ sizeLine) (h : Q (.str (cutS z lo hi)) H) : rSlA K (.str z) lo hi H Q := .inl ⟨z, rfl, hz, h⟩
theorem slA_lst {K : Frg} {a : Addr} {xs : List V} {lo hi : Option Int} {H : Hp} {Q : VK} (ha : SqL K H a xs) (h : ∀ p, H p = none → Q (.ref p) (upd H p (.lst (cutV xs lo hi)))) : rSlA K (.ref a) lo hi H Q := .inr ⟨a, xs, rfl, ha, h⟩
/-! ### built-ins by their names -/
abbrev RC := List V → Hp → VK → Prop
def rLenA (K : Frg) : RC := fun xs H Q => ∃ x n, xs = [x] ∧ LenV K x H n ∧ Q (.int n) H
theorem c_len {X : Cx} : CallR X (.builtin "len") (rLenA X.K) := call_len
theorem lenA_str {K : Frg} {z : Str} {H : Hp} {Q : VK} (hz : z.length ≤ sizeLine) (h : Q (.int z.length) H) : rLenA K [.str z] H Q := ⟨_, _, rfl, ⟨hz, rfl⟩, h⟩
theorem lenA_lst {K : Frg} {a : Addr} {xs : List V} {H : Hp} {Q : VK} (ha : SqL K H a xs) (h : Q (.int xs.length) H) : rLenA K [.ref a] H Q := ⟨_, _, rfl, .inl ⟨_, ha, rfl⟩, h⟩
theorem lenA_tup {K : Frg} {a : Addr} {xs : List V} {H : Hp} {Q : VK} (ha : SqT K H a xs) (h : Q (.int xs.length) H) : rLenA K [.ref a] H Q := ⟨_, _, rfl, .inr ⟨_, ha, rfl⟩, h⟩
def rAbsA : RC := fun xs H Q => ∃ i, xs = [.int i] ∧ Q (.int (if i < 0 then -i else i)) H
theorem c_abs {X : Cx} : CallR X (.builtin "abs") rAbsA := call_abs
def rIntA : RC := fun xs H Q => (∃ i, xs = [.int i] ∧ Q (.int i) H) ∨ ∃ k, xs = [.bl k] ∧ Q (.int (if k then 1 else 0)) H
theorem c_int {X : Cx} : CallR X (.type "int") rIntA := call_int1
theorem intA_int {i : Int} {H : Hp} {Q : VK} (h : Q (.int i) H) : rIntA [.int i] H Q := .inl ⟨i, rfl, h⟩
def rListA (K : Frg) : RC := fun xs H Q => ∃ p ys, xs = [.ref p] ∧ (SqL K H p ys ∨ SqT K H p ys) ∧ ∀ l, H l = none → Q (.ref l) (upd H l (.lst ys))
theorem c_list {X : Cx} : CallR X (.type "list") (rListA X.K) := call_list_of
def rJoinA (K : Frg) : V → List V → Hp → VK → Prop := fun x xs H Q => ∃ a p, ∃ ys : List Str, x = .str a ∧ xs = [.ref p] ∧ (SqL K H p (ys.map V.str) ∨ SqT K H p (ys.map V.str)) ∧ (ys.map (·.length)).sum + ys.length * a.length ≤ 16777216 ∧ Q (.str (Txt.join a ys)) H
theorem pe_joinA {X : Cx} {o e : Expr} {to te : TE} {apos pos : Pos} (ho : PE X o to) (he : PE X e te) (h1 : starEach [e] X.env = [(false, eval e X.env)] := by rfl) (h2 : attributeBase o "join" X.env (eval o X.env) = eval o X.env := by rfl) (h3 : (apos.endLine == pos.line) = true := by rfl) :
    PE X (.Call (.Attribute o "join" apos) [e] [] pos) (tM1 (rJoinA X.K) to te) := pe_join ho he h1 h2 h3
def rIsiA (K : Frg) : RC := rIsi K
theorem c_isi {X : Cx} : CallR X (.builtin "isinstance") (rIsiA X.K) := call_isi
theorem isi_go {K : Frg} {x c : V} {t u : Value} {b : Bool} {H : Hp} {Q : VK} (hc : ClsV c u) (ht : TyX K H x t) (hk : PySem.W.kitOne K t u = some b) (h : Q (.bl b) H) : rIsiA K [x, c] H Q := ⟨x, c, t, u, b, rfl, hc, ht, hk, h⟩
/-! ### constants of the module -/
theorem pe_gint {X : Cx} {x : Str} {i : Int} {pos : Pos} (hg : Gl X x) (hm : ∃ t, X.mg x = some (.int i t)) (hd : (x == ("__debug__" : Str)) = false := by decide) : PE X (.Name x pos) (tC (.int i)) :=
  let ⟨t, h⟩ := hm; pe_glob hg h ⟨t, rfl⟩ hd
theorem pe_gstr {X : Cx} {x z : Str} {pos : Pos} (hg : Gl X x) (hm : ∃ t, X.mg x = some (.str z t)) (hd : (x == ("__debug__" : Str)) = false := by decide) : PE X (.Name x pos) (tC (.str z)) :=
  let ⟨t, h⟩ := hm; pe_glob hg h ⟨t, rfl⟩ hd
/-- what a def wishes of exceptions -/
def W0 (E : XK) : WX := fun cls d _ H => E cls d H
def WN : WX := fun _ _ _ _ => False
end L2

/-! Built-ins and operators over instances of the program's own classes. -/
namespace L2
open PySem PySem.Spec PyProof.Rows
section
variable {X : Cx} {CX : CXT} {k : Nat} {f C a dx : Addr} {fs : List (Str × V)} {fd : FuncData} {ps : List Str} {sp : Sp} {dvs : List V} {ds : List Value} {pins : List (Addr × Obj)} {σ : St} {H : Hp} {s : Shared}
/-- a def of the text runs within a built-in -/
theorem run_in {A' : Around} {Q : VK} {E : XK} {us : List Value} {vs : List V} (F : FnOk X.prog X.w X.K X.mg X.base CX k f fd ps sp) (hr : Room k A') (hfr : A'.frames = X.A.frames) (hb : Binds X.K fd ps ds) (hd : Vals dvs ds)
    (hx : PassesAt CX X σ E) (I : Inv X pins σ H s) (r : Vals vs us) (h : sp (vs ++ dvs) H Q E) : wpAny (model X.prog X.w) A' (call (.ref f) us) (EP X pins σ Q) X.xe s := by
  have e0 := I.env0
  have e1 : Env0 X.prog X.w X.K X.mg X.base A' X.stack s H := ⟨hfr.trans e0.frames, e0.mod, e0.bs, e0.bsz, e0.funs, e0.frf, e0.hok, e0.bare⟩
  have rr : Vals (vs ++ dvs) (us ++ ds) := r.append hd
  refine wpAny_call (codeAny_mono (F.run A' X.stack s H ⟨us, []⟩ _ _ Q E hr e1 (hb s us I.kIn (rr.length.symm.trans (F.len _ _ _ _ h))) rr h) ?_)
  intro res s' hq
  match res, hq with
  | .error e, hq => exact hx pins H s e s' I hq
  | .ok (.ret u), hq => exact I.after hq
  | .ok .next, hq => exact hq.elim
  | .ok .brk, hq => exact hq.elim
  | .ok .cont, hq => exact hq.elim
/-- an instance as the library's rules see it -/
theorem Inv.instAt (I : Inv X pins σ H s) (ea : H a = some (.ins C dx fs)) : ∃ od, PySem.W.InstAt s.heap a (PySem.W.instObj C dx) C (some od) := by
  obtain ⟨mA, O, _⟩ := ins_get I.hok ea
  obtain ⟨od, J, _⟩ := O.look
  exact ⟨od, J⟩
/-- str(o), o's class with a __str__ of the program -/
def rStrO (C : Addr) (sp : Sp) (E : St → XK) (σ : St) : List V → Hp → VK → Prop := fun xs H Q => ∃ a dx fs, xs = [.ref a] ∧ H a = some (.ins C dx fs) ∧ sp [.ref a] H (fun v H' => ∃ z, v = .str z ∧ Q (.str z) H') (E σ)
def tStrO (C : Addr) (sp : Sp) (E : St → XK) (t : TA) : TE := fun σ H Q => t σ H fun vs H1 => rStrO C sp E σ vs H1 Q
theorem pe_strO {E : St → XK} {p pos : Pos} {e : Expr} {es : List Expr} {t : TA} (m : Meth X.K C "__str__" f) (F : FnOk X.prog X.w X.K X.mg X.base CX k f fd ps sp) (hr : Room (k + 2) X.A) (hb : Binds X.K fd ps []) (hx : ∀ σ, PassesAt CX X σ (E σ))
    (hg : Gl X "str") (hm : X.mg "str" = none) (ha : PA X (e :: es) t)
    (he : starEach (e :: es) X.env = (false, eval e X.env) :: starEach es X.env := by rfl) (hpl : (backTo pos (starEach es X.env)).any (·.1) = false := by rfl) : PE X (.Call (.Name "str" p) (e :: es) [] pos) (tStrO C sp E t) := by
  constructor
  intro pins s σ H Q I h
  refine wpAny_Call_Name_kw (ld_blt I hg hm (by decide +kernel : bootBuiltins "str" = some (.type "str")) ?_ (by decide) (by decide))
  refine PyProof.Rows.callWith_type1 (thn (ha.run pos pins s σ H _ I h) ?_) he hpl
  rintro us s1 ⟨vs, H1, I1, r1, a, dx, fs, rfl, ea, q⟩
  cases r1 with
  | cons ra rn =>
    cases rn
    cases ra
    obtain ⟨od, J⟩ := I1.instAt ea
    refine PySem.W.kso_call (hr.in1.in1.units0) I1.kIn J m.at_ m.fn (thn (run_in (vs := [.ref a]) (dvs := []) (ds := []) F hr.in1.in1 rfl hb .nil (hx σ) I1 (.cons rfl .nil) (by simpa using q)) ?_)
    rintro v s2 ⟨x, H2, I2, rx, z, rfl, q2⟩
    obtain ⟨t, rfl⟩ := rx
    exact ⟨.str z, H2, I2, ⟨t, rfl⟩, q2⟩
end
end L2

/-! What the head tells of the written part: a Bool of facts, and the function objects by their places. -/
namespace Rz
open PySem PySem.Spec PyProof.Rows L2 He
abbrev Fg := PySem.W.Frag
/-! ### looking into K -/
def funOf (K : Fg) (f : Addr) : Option FuncData := match K.lookup f with
  | some o => (match o.data with
    | .func fd => some fd
    | _ => none)
  | none => none
theorem funOf_ok {K : Fg} {f : Addr} {fd : FuncData} (h : funOf K f = some fd) : ∃ oc od osl, K.lookup f = some ⟨oc, od, .func fd, osl⟩ := by
  unfold funOf at h
  cases q : K.lookup f with
  | none => rw [q] at h; cases h
  | some o =>
    obtain ⟨oc, od, dt, osl⟩ := o
    rw [q] at h
    cases dt with
    | func fd' =>
      have e : fd' = fd := Option.some.inj h
      subst e
      exact ⟨oc, od, osl, rfl⟩
    | _ => cases h
theorem funOf_eq {K : Fg} {f : Addr} {fd : FuncData} {oc od osl} (h : K.lookup f = some ⟨oc, od, .func fd, osl⟩) : funOf K f = some fd := by
  unfold funOf
  rw [h]
def fldsOf (K : Fg) (a : Addr) : Option (Array Value) := match K.lookup a with
  | some o => (match o.data with
    | .fields vs => some vs
    | _ => none)
  | none => none
theorem fldsOf_ok {K : Fg} {a : Addr} {vs : Array Value} (h : fldsOf K a = some vs) : ∃ oc od osl, K.lookup a = some ⟨oc, od, .fields vs, osl⟩ := by
  unfold fldsOf at h
  cases q : K.lookup a with
  | none => rw [q] at h; cases h
  | some o =>
    obtain ⟨oc, od, dt, osl⟩ := o
    rw [q] at h
    cases dt with
    | fields v =>
      have e : v = vs := Option.some.inj h
      subst e
      exact ⟨oc, od, osl, rfl⟩
    | _ => cases h
def cellOf (K : Fg) (a : Addr) : Option (Option Value) := match K.lookup a with
  | some o => (match o.data with
    | .cell v => some v
    | _ => none)
  | none => none
theorem cellOf_ok {K : Fg} {a : Addr} {v : Option Value} (h : cellOf K a = some v) : ∃ oc od osl, K.lookup a = some ⟨oc, od, .cell v, osl⟩ := by
  unfold cellOf at h
  cases q : K.lookup a with
  | none => rw [q] at h; cases h
  | some o =>
    obtain ⟨oc, od, dt, osl⟩ := o
    rw [q] at h
    cases dt with
    | cell u =>
      have e : u = v := Option.some.inj h
      subst e
      exact ⟨oc, od, osl, rfl⟩
    | _ => cases h
def strOf? : Value → Option Str
  | .str x _ => some x
  | _ => none
theorem strOf?_ok {v : Value} {x : Str} (h : strOf? v = some x) : ∃ t, v = .str x t := by
  cases v with
  | str y t =>
    have e : y = x := Option.some.inj h
    exact ⟨t, by rw [e]⟩
  | _ => cases h
def refOf? : Value → Option Addr
  | .ref a => some a
  | _ => none
theorem refOf?_ok {v : Value} {a : Addr} (h : refOf? v = some a) : v = .ref a := by
  cases v with
  | ref b => exact congrArg Value.ref (Option.some.inj h)
  | _ => cases h
def clsOf (K : Fg) (a : Addr) : Option (ClassData × Array (Option Value)) := match K.lookup a with
  | some o => (match o.data with
    | .cls cd => (match decide (o.cls = .type "type") with
      | true => some (cd, o.slots)
      | false => none)
    | _ => none)
  | none => none
theorem clsOf_ok {K : Fg} {a : Addr} {cd : ClassData} {sl : Array (Option Value)} (h : clsOf K a = some (cd, sl)) : ∃ od, K.lookup a = some ⟨.type "type", od, .cls cd, sl⟩ := by
  unfold clsOf at h
  cases q : K.lookup a with
  | none => rw [q] at h; cases h
  | some o =>
    obtain ⟨oc, od, dt, osl⟩ := o
    rw [q] at h
    cases dt with
    | cls c =>
      cases e : decide (oc = Value.type "type") with
      | false =>
        simp only [e] at h
        cases h
      | true =>
        simp only [e] at h
        have e1 := Option.some.inj h
        have e2 : c = cd := congrArg Prod.fst e1
        have e3 : osl = sl := congrArg Prod.snd e1
        have e4 : oc = .type "type" := of_decide_eq_true e
        subst e2 e3 e4
        exact ⟨od, rfl⟩
    | _ => cases h
/-! ### where a function stands -/
def pG (x : Str) : Fg → Addr := fun K => ga K x
def pM (C m : Str) : Fg → Addr := fun K => ma K (ga K C) m
/-- the record that a class has at a name (a property's, a classmethod's) -/
def recAt (C m : Str) : Fg → Addr := fun K => ma K (ga K C) m
def firstOf (n : String) (p : Addr) (K : Fg) : Addr := match PySem.W.recIn K p n with
  | some (.ref g :: _) => g
  | _ => 0
def pP (C m : Str) : Fg → Addr := fun K => firstOf "property" (recAt C m K) K
def pC (C m : Str) : Fg → Addr := fun K => firstOf "classmethod" (recAt C m K) K
/-! ### a function's datum -/
structure Dq where
  at_ : Fg → Addr
  name : Str
  qual : Str
  params : Arguments
  body : List Stmt
  scope : Scope
  clo : List Str := []
  dfl : List Dv := []
  kwd : List (Str × Dv) := []
abbrev FnQ : Type := Option (Str × Str × Arguments × FuncBody × Scope × Addr × List Str × Addr)
def fnQ (K : Fg) (f : Addr) : FnQ := (funOf K f).map fun fd => (fd.name, fd.qualname, fd.params, fd.body, fd.scope, fd.globals, fd.closure.map (·.1), fd.builtins)
def Dq.val (d : Dq) : FnQ := some (d.name, d.qual, d.params, .stmts d.body, d.scope, mainGlobals, d.clo, builtinsNs)
def Dq.dvs (K : Fg) (d : Dq) : List V := d.dfl.map (Dv.v K)
def Dq.kws (K : Fg) (d : Dq) : List (Str × V) := d.kwd.map fun q => (q.1, q.2.v K)
def Dq.ok (K : Fg) (d : Dq) : Bool := PySem.W.keepIn K (.ref (d.at_ K)) && (match funOf K (d.at_ K) with
  | some fd => PySem.W.codeIn K fd.code d.qual && (dflB K fd.defaults (d.dvs K) && kwdB K fd.kwdefaults (d.kws K))
  | none => false)
theorem Dq.parts {K : Fg} {d : Dq} (e : fnQ K (d.at_ K) = d.val) (c : d.ok K = true) : ∃ oc od osl cl dV kV doc pm an cdv ct, K.lookup (d.at_ K) = some ⟨oc, od, .func (PySem.W.fnX d.name d.qual d.params d.body d.scope cl dV kV doc pm an cdv ct), osl⟩ ∧ cl.map (·.1) = d.clo ∧
    PySem.W.keepIn K (.ref (d.at_ K)) = true ∧ PySem.W.codeIn K cdv d.qual = true ∧ DflV K dV (d.dvs K) ∧ KwdV K kV (d.kws K) := by
  unfold Dq.ok at c
  unfold fnQ at e
  obtain ⟨kp, c2⟩ := ba c
  cases q : funOf K (d.at_ K) with
  | none => rw [q] at c2; cases c2
  | some fd =>
    rw [q] at c2 e
    obtain ⟨oc, od, osl, lk⟩ := funOf_ok q
    obtain ⟨n1, n2, n3, n4, n5, n6, n7, n8, n9, n10, n11, n12, n13, n14, n15⟩ := fd
    simp only [Dq.val, Option.map_some, Option.some.injEq, Prod.mk.injEq] at e
    obtain ⟨h1, h2, h3, h4, h5, h6, h7, h8⟩ := e
    subst h1 h2 h3 h4 h5 h6 h8
    obtain ⟨k1, k2⟩ := ba c2
    obtain ⟨k3, k4⟩ := ba k2
    exact ⟨oc, od, osl, n7, n8, n9, n10, n11, n12, n13, n14, lk, h7, kp, k1, dflB_ok k3, kwdB_ok k4⟩
theorem Dq.funD {K : Fg} {d : Dq} (e : fnQ K (d.at_ K) = d.val) (c : d.ok K = true) (hc : d.clo = []) : ∃ fd, FunD K d.name d.qual d.params d.body d.scope (d.dvs K) (d.kws K) (d.at_ K) fd := by
  obtain ⟨oc, od, osl, cl, dV, kV, doc, pm, an, cdv, ct, h1, h2, h3, h4, h5, h6⟩ := Dq.parts e c
  rw [hc] at h2
  have : cl = [] := List.map_eq_nil_iff.mp h2
  subst this
  exact ⟨_, ⟨oc, od, dV, kV, doc, pm, an, cdv, ct, osl, rfl, h1, h4, h5, h6⟩, h3⟩
/-! ### facts of classes -/
def gloB (x : Str) : Fg → Bool := fun K => (Fa.glo x).ok K
def firstB (n : String) (p : Addr) (K : Fg) : Bool := decide ((PySem.W.recIn K p n).bind List.head? = some (.ref (firstOf n p K)))
theorem firstB_ok {n : String} {p : Addr} {K : Fg} (h : firstB n p K = true) : ∃ rest, PySem.W.recIn K p n = some (.ref (firstOf n p K) :: rest) := by
  have e := of_decide_eq_true h
  cases q : PySem.W.recIn K p n with
  | none => rw [q] at e; cases e
  | some l =>
    rw [q] at e
    cases l with
    | nil => cases e
    | cons v r =>
      have ev : v = .ref (firstOf n p K) := Option.some.inj e
      exact ⟨r, by rw [ev]⟩
def propB (C m : Str) : Fg → Bool := fun K => eqO (PySem.W.findIn K (.ref (ga K C)) m) (some (some (.ref (recAt C m K)))) && (eqO (PySem.W.specialIn K (.ref (recAt C m K)) "__get__") (some (some (.builtin "property.__get__"))) &&
  (decide (PySem.W.takesIn K (.ref (recAt C m K)) = some true) && firstB "property" (recAt C m K) K))
theorem propB_ok {C m : Str} {K : Fg} (h : propB C m K = true) : PropOf K (ga K C) m (recAt C m K) (pP C m K) := by
  obtain ⟨h1, h⟩ := ba h
  obtain ⟨h2, h⟩ := ba h
  obtain ⟨h3, h4⟩ := ba h
  exact ⟨eqO_ok h1, eqO_ok h2, of_decide_eq_true h3, firstB_ok h4⟩
/-- an exception class of the program -/
def mroVE (C : Addr) (l : List Value) : Bool := decide (l.head? = some (.ref C)) && PySem.HandSPX.refsVE l.tail
def slotsVE (sl : Array (Option Value)) : Bool := decide (sl.size = 6) && decide (sl[4]? = some (some (.builtin "ValueError.__new__")))
def clsVE (K : Fg) (C : Addr) : Bool := match clsOf K C with
  | some (cd, sl) => mroVE C cd.mro && (cd.hasDict && (!cd.hasDel && slotsVE sl))
  | none => false
theorem clsVE_ok {K : Fg} {C : Addr} (h : clsVE K C = true) : ∃ nm q N bs bm sn sub ab col dd k0 k1 k2 k3 k5, K.lookup C = some (excClassObj nm q C N bs bm true sn sub ab col dd k0 k1 k2 k3 k5 "ValueError.__new__") ∧ PySem.HandSPX.refsVE bm = true := by
  unfold clsVE at h
  cases q : clsOf K C with
  | none => rw [q] at h; cases h
  | some r =>
    obtain ⟨cd, sl⟩ := r
    rw [q] at h
    obtain ⟨od, lk⟩ := clsOf_ok q
    obtain ⟨nm, bs, mro, N, qn, hd, sn, sub, ab, col, del⟩ := cd
    obtain ⟨h2, h⟩ := ba (show (mroVE C mro && (hd && (!del && slotsVE sl))) = true from h)
    obtain ⟨h3, h⟩ := ba h
    obtain ⟨h4, h5⟩ := ba h
    have e4 : del = false := by simpa using h4
    subst h3 e4
    obtain ⟨h6, h7⟩ := ba h2
    obtain ⟨h8, h9⟩ := ba h5
    cases mro with
    | nil => cases of_decide_eq_true h6
    | cons v bm =>
      have ev : v = .ref C := Option.some.inj (of_decide_eq_true h6)
      subst ev
      obtain ⟨l⟩ := sl
      have z : l.length = 6 := of_decide_eq_true h8
      have z4 : l[4]? = some (some (.builtin "ValueError.__new__")) := by simpa using of_decide_eq_true h9
      obtain ⟨k0, l, rfl⟩ := List.exists_cons_of_length_eq_add_one z
      obtain ⟨k1, l, rfl⟩ := List.exists_cons_of_length_eq_add_one (Nat.succ.inj z)
      obtain ⟨k2, l, rfl⟩ := List.exists_cons_of_length_eq_add_one (Nat.succ.inj (Nat.succ.inj z))
      obtain ⟨k3, l, rfl⟩ := List.exists_cons_of_length_eq_add_one (Nat.succ.inj (Nat.succ.inj (Nat.succ.inj z)))
      obtain ⟨k4, l, rfl⟩ := List.exists_cons_of_length_eq_add_one (Nat.succ.inj (Nat.succ.inj (Nat.succ.inj (Nat.succ.inj z))))
      obtain ⟨k5, l, rfl⟩ := List.exists_cons_of_length_eq_add_one (Nat.succ.inj (Nat.succ.inj (Nat.succ.inj (Nat.succ.inj (Nat.succ.inj z)))))
      have e0 : l = [] := List.eq_nil_of_length_eq_zero (Nat.succ.inj (Nat.succ.inj (Nat.succ.inj (Nat.succ.inj (Nat.succ.inj (Nat.succ.inj z))))))
      have e4 : k4 = some (.builtin "ValueError.__new__") := by simpa using z4
      subst e0 e4
      exact ⟨nm, qn, N, bs, bm, sn, sub, ab, col, od, k0, k1, k2, k3, k5, lk, h7⟩
def excB (x : Str) : Fg → Bool := fun K => clsVE K (ga K x) && (eqO (PySem.W.findIn K (.ref (ga K x)) "__setattr__") (some (some (.builtin "object.__setattr__"))) && (PySem.W.keepIn K (.ref (ga K x)) && (decide (PySem.W.subIn K (.ref (ga K x)) (.type "BaseException") = some true) &&
  (decide (PySem.W.subIn K (.ref (ga K x)) (.type "ValueError") = some true) && (decide (PySem.W.typeIn K (.ref (ga K x)) = some (.type "type")) && (eqO (PySem.W.nsIn K cStatics "thirdparty.any") (some none) && xfB K (ga K x)))))))
theorem excB_ok {x : Str} {K : Fg} (h : excB x K = true) : ExC K (ga K x) ∧ XfC K (ga K x) := by
  obtain ⟨h1, h⟩ := ba h
  obtain ⟨h2, h⟩ := ba h
  obtain ⟨h3, h⟩ := ba h
  obtain ⟨h4, h⟩ := ba h
  obtain ⟨h5, h⟩ := ba h
  obtain ⟨h6, h⟩ := ba h
  obtain ⟨h7, h8⟩ := ba h
  exact ⟨⟨clsVE_ok h1, eqO_ok h2, h3, of_decide_eq_true h4, of_decide_eq_true h5, of_decide_eq_true h6, eqO_ok h7⟩, xfB_ok h8⟩
/-- its __init__: the cell of __class__, the code object -/
def ccOf (f : Addr) (K : Fg) : Addr := match funOf K f with
  | some fd => (match fd.closure.head? with
    | some q => q.2
    | none => 0)
  | none => 0
def cdOf (f : Addr) (K : Fg) : Addr := match funOf K f with
  | some fd => (refOf? fd.code).getD 0
  | none => 0
def fileB (P : Program) (c : Addr) (K : Fg) : Bool := match (fldsOf K c).bind fun vs => vs[2]?.bind strOf? with
  | some file => (P.main.file : Str) == file
  | none => false
theorem fileB_ok {P : Program} {c : Addr} {K : Fg} (h : fileB P c K = true) : ∃ (ccl : Value) (cdd : Option Addr) (vs : Array Value) (ccs : Array (Option Value)) (file : Str) (tf : Tok),
    K.lookup c = some ⟨ccl, cdd, .fields vs, ccs⟩ ∧ vs[2]? = some (.str file tf) ∧ ((P.main.file : Str) == file) = true := by
  unfold fileB at h
  cases q : fldsOf K c with
  | none => rw [q] at h; cases h
  | some vs =>
    rw [q] at h
    obtain ⟨oc, od, osl, lk⟩ := fldsOf_ok q
    cases q2 : vs[2]? with
    | none =>
      simp only [Option.bind_some, q2, Option.bind_none] at h
      cases h
    | some v =>
      simp only [Option.bind_some, q2] at h
      cases q3 : strOf? v with
      | none => rw [q3] at h; cases h
      | some file =>
        rw [q3] at h
        obtain ⟨t, rfl⟩ := strOf?_ok q3
        exact ⟨oc, od, vs, osl, file, t, lk, q2, h⟩
def iniB (P : Program) (x : Str) : Fg → Bool := fun K => eqO (PySem.W.findIn K (.ref (ga K x)) "__init__") (some (some (.ref (pM x "__init__" K)))) && (decide (PySem.W.typeIn K (.ref (pM x "__init__" K)) = some (.type "function")) &&
  (fileB P (cdOf (pM x "__init__" K) K) K && (decide (cellOf K (ccOf (pM x "__init__" K) K) = some (some (.ref (ga K x)))) && eqO (PySem.W.ks_superIn K (ga K x) (ga K x) "__init__") (some (some (.builtin "ValueError.__init__"))))))
theorem iniB_ok {P : Program} {x : Str} {K : Fg} {d : Dq} (h : iniB P x K = true) (ht : (P.main.scope.names.lookup ("super" : Str)).isSome = false) (hd : d.at_ = pM x "__init__") (e : fnQ K (d.at_ K) = d.val) (c : d.ok K = true) (hc : d.clo = [("__class__" : Str)]) (hdf : d.dfl = []) :
    ExF P K (ga K x) (pM x "__init__" K) (ccOf (pM x "__init__" K) K) (cdOf (pM x "__init__" K) K) d.params d.body d.scope := by
  obtain ⟨h1, h⟩ := ba h
  obtain ⟨h2, h⟩ := ba h
  obtain ⟨h3, h⟩ := ba h
  obtain ⟨h4, h5⟩ := ba h
  obtain ⟨oc, od, osl, cl, dV, kV, doc, pm, an, cdv, ct, g1, g2, g3, g4, g5, g6⟩ := Dq.parts e c
  rw [hc] at g2
  rw [hd] at g1
  obtain ⟨cc, rfl⟩ : ∃ cc, cl = [(("__class__" : Str), cc)] := by
    cases cl with
    | nil => cases g2
    | cons p r =>
      obtain ⟨n, cc⟩ := p
      cases r with
      | nil =>
        have : n = "__class__" := by simpa using g2
        exact ⟨cc, by rw [this]⟩
      | cons _ _ => simp at g2
  have hdv : dV = .none := by
    rcases g5 with ⟨_, z⟩ | ⟨z, _⟩
    · exact z
    · exact absurd (by unfold Dq.dvs; rw [hdf]; rfl) z
  subst hdv
  obtain ⟨cda, rfl⟩ : ∃ cda, cdv = .ref cda := by
    cases cdv with
    | ref a => exact ⟨a, rfl⟩
    | _ => cases g4
  have ecc : ccOf (pM x "__init__" K) K = cc := by
    unfold ccOf
    rw [funOf_eq g1]
    rfl
  have ecd : cdOf (pM x "__init__" K) K = cda := by
    unfold cdOf
    rw [funOf_eq g1]
    rfl
  rw [ecc, ecd]
  rw [ecc] at h4
  rw [ecd] at h3
  refine ⟨eqO_ok h1, of_decide_eq_true h2, ⟨oc, od, d.name, d.qual, kV, doc, pm, ct, an, osl, g1, g4⟩, fileB_ok h3, ?_, eqO_ok h5, ht⟩
  obtain ⟨a, b, c', q⟩ := cellOf_ok (of_decide_eq_true h4)
  exact ⟨a, b, c', q⟩
/-! ### the Hook -/
def growR (g : Addr → Option Obj) (as : List Addr) : List Addr := growD g as
def asR (g : Addr → Option Obj) : Nat → List Addr
  | 0 => [mainGlobals, cStatics]
  | n + 1 => growR g (asR g n)
abbrev AlR : Type := Bool × List FnQ
def obsR (fa : List (Fg → Bool)) (fn : List Dq) (K : Fg) : AlR := ((fa.all fun f => f K) && fn.all fun d => d.ok K, fn.map fun d => fnQ K (d.at_ K))
def valR (fn : List Dq) : AlR := (true, fn.map Dq.val)
def SaysR (fa : List (Fg → Bool)) (fn : List Dq) (K : Fg) : Prop := obsR fa fn K = valR fn
def obsRG (n : Nat) (fa : List (Fg → Bool)) (fn : List Dq) (g : Addr → Option Obj) : AlR := obsR fa fn (frG g (asR g n))
def hookR (n : Nat) (fa : List (Fg → Bool)) (fn : List Dq) : PySem.W.Hook where
  α := AlR
  obs := fun s => obsRG n fa fn s.heap.get?
  val := fun _ => valR fn
  says := fun _ h => ∃ K : Fg, K.In h ∧ SaysR fa fn K
  of := fun _ _ e => ⟨_, frG_in, e⟩
  keeps := fun _ _ _ ⟨K, hK, c⟩ k => ⟨K, PySem.W.Frag.In.keeps hK k, c⟩
theorem obsRG_eq {n : Nat} {fa : List (Fg → Bool)} {fn : List Dq} {g : Addr → Option Obj} {s : Shared} (h : ∀ a, g a = s.heap.get? a) : obsRG n fa fn g = (hookR n fa fn).obs s := by
  have e : g = s.heap.get? := funext h
  rw [e] <;> rfl
section
variable {fa : List (Fg → Bool)} {fn : List Dq} {K : Fg}
theorem SaysR.fact (c : SaysR fa fn K) (i : Nat) {f : Fg → Bool} (h : fa[i]? = some f := by rfl) : f K = true := by
  have c1 := (ba (show ((fa.all fun f => f K) && fn.all fun d => d.ok K) = true from congrArg Prod.fst c)).1
  exact List.all_eq_true.mp c1 f (List.mem_of_getElem? h)
theorem SaysR.def_ (c : SaysR fa fn K) (i : Nat) {d : Dq} (h : fn[i]? = some d := by rfl) : fnQ K (d.at_ K) = d.val ∧ d.ok K = true := by
  have c2 := (ba (show ((fa.all fun f => f K) && fn.all fun d => d.ok K) = true from congrArg Prod.fst c)).2
  have e : fn.map (fun d => fnQ K (d.at_ K)) = fn.map Dq.val := congrArg Prod.snd c
  have e2 : (fn.map fun d => fnQ K (d.at_ K))[i]? = (fn.map Dq.val)[i]? := by rw [e]
  rw [List.getElem?_map, List.getElem?_map, h] at e2
  exact ⟨Option.some.inj e2, List.all_eq_true.mp c2 d (List.mem_of_getElem? h)⟩
theorem SaysR.fun_ (c : SaysR fa fn K) (i : Nat) {d : Dq} (h : fn[i]? = some d := by rfl) (hc : d.clo = [] := by rfl) : ∃ fd, FunD K d.name d.qual d.params d.body d.scope (d.dvs K) (d.kws K) (d.at_ K) fd :=
  let ⟨e, k⟩ := c.def_ i h; Dq.funD e k hc
end
end Rz

/-! Names for readings. -/
namespace L2
open PySem PySem.Spec PyProof.Rows
def tRaise (mk : St → Hp → XK → Prop) (W : WX) : TS := fun _ σ H => mk σ H fun cls d H' => W cls d σ H'
def tTry (K : Frg) (W : WX) (tb : WX → TS) (l : List Clause) : TS := fun D σ H => tb (wMix K W D l) D σ H
theorem ps_tryM {X : Cx} {body : List Stmt} {h₀ : ExceptHandler} {hds : List ExceptHandler} {l : List Clause} {pos : Pos} {tb : WX → TS} {Wout : WX} (hs : X.stack = X.env :: X.outer) (hf : X.env.frame = some X.env.locals) (hN : X.N.Nodup) (tk : Takes X Wout)
    (hb : ∀ (W : WX) (pn : List (Addr × Obj)) (xe : Value → Shared → Prop), Takes (X.tr pn xe) W → PassesOwn (model X.prog X.w) X.A X.env xe → PSs (X.tr pn xe) body (tb W)) (hh : HdsMix X (h₀ :: hds) l) :
    PS X (.Try body (h₀ :: hds) [] [] pos) (tTry X.K Wout tb l) := ps_try_mix hs hf hN tk hb hh
def tJoined (ts : List TE) : TE := fun σ H Q => tJs ts Str.empty σ H fun out H1 => Q (.str out) H1
def tTruth (K : Frg) (ta : TE) : TT := fun σ H Q => ta σ H fun x H' => ∃ k, TruV K x H' k ∧ Q k H'
abbrev rNegA : V → Hp → VK → Prop := rU fun i => .int (-i)
end L2

/-! How a reading goes on, one lemma a construct. -/
namespace L2
open PySem PySem.Spec PyProof.Rows
section
variable {K : Frg} {σ : St} {H : Hp} {Q : VK} {D : Ends} {ta tb tc : TE} {t u : TS} {tt tt' : TT} {g : TG} {i : Nat} {v : V} {tl tr : TA} {W : WX} {E : XK} {B : Bool → Hp → Prop} {QL : List V → Hp → Prop}
theorem rd_seq (h : t { D with nx := u D } σ H) : tSeq t u D σ H := h
theorem rd_next (h : D.nx σ H) : tNext D σ H := h
theorem rd_asg (h : ta σ H fun x H1 => g x σ H1 D.nx) : tAsg ta g D σ H := h
theorem rd_name {R : St → Hp → Prop} (h : R (σ.set i (some v)) H) : gName i v σ H R := h
theorem rd_drop (h : ta σ H fun _ H1 => D.nx σ H1) : tDrop ta D σ H := h
theorem rd_ret (h : ta σ H D.rt) : tRet ta D σ H := h
theorem rd_retN (h : D.rt .non H) : tRetN D σ H := h
theorem rd_if (h : tt σ H fun b H1 => (b = true → t D σ H1) ∧ (b = false → u D σ H1)) (hm : ∀ {P P' : Bool → Hp → Prop}, (∀ b H, P b H → P' b H) → tt σ H P → tt σ H P') : tIfS tt t u D σ H :=
  hm (fun b H1 ⟨h1, h2⟩ => by cases b; exact h2 rfl; exact h1 rfl) h
theorem rd_ifS (h : tt σ H fun b H1 => if b = true then t D σ H1 else u D σ H1) : tIfS tt t u D σ H := h
theorem rd_var (e : σ[i]? = some (some v)) (h : Q v H) : tVar i σ H Q := ⟨v, e, h⟩
theorem rd_c (h : Q v H) : tC v σ H Q := h
theorem rd_op {r : R2} (h : ta σ H fun x H1 => tb σ H1 fun y H2 => r x y H2 Q) : tOp r ta tb σ H Q := h
theorem rd_un {r : V → Hp → VK → Prop} (h : ta σ H fun x H1 => r x H1 Q) : tUn r ta σ H Q := h
theorem rd_neg {j : Int} (h : Q (.int (-j)) H) : rNegA (.int j) H Q := ⟨j, rfl, h⟩
theorem rd_cb {r : RC} (h : tl σ H fun vs H1 => r vs H1 Q) : tCB r tl σ H Q := h
theorem rd_nil (h : QL [] H) : tNil σ H QL := h
theorem rd_cons (h : ta σ H fun x H1 => tr σ H1 fun xs H2 => QL (x :: xs) H2) : tCons ta tr σ H QL := h
theorem rd_test (h : ta σ H fun x H1 => ∃ k, x = .bl k ∧ B k H1) : tTest ta σ H B := h
theorem rd_tb (h : ta σ H fun x H1 => ∃ k, x = .bl k ∧ B k H1) : tB ta σ H B := h
theorem rd_bl {k : Bool} (h : B k H) : ∃ k', V.bl k = .bl k' ∧ B k' H := ⟨k, rfl, h⟩
theorem rd_and (h : tt σ H fun c H1 => if c = true then tt' σ H1 B else B false H1) : tAnd tt tt' σ H B := h
theorem rd_or (h : tt σ H fun c H1 => if c = true then B true H1 else tt' σ H1 B) : tOr tt tt' σ H B := h
theorem rd_not (h : tt σ H fun c H1 => B (!c) H1) : tNot tt σ H B := h
theorem rd_andV (h : ta σ H fun x H1 => ∃ c, x = .bl c ∧ if c = true then tb σ H1 Q else Q (.bl false) H1) : tAndV ta tb σ H Q := h
theorem rd_orV (h : ta σ H fun x H1 => ∃ c, x = .bl c ∧ if c = true then Q (.bl true) H1 else tb σ H1 Q) : tOrV ta tb σ H Q := h
theorem rd_notV (h : ta σ H fun x H1 => ∃ c, x = .bl c ∧ Q (.bl (!c)) H1) : tNotV ta σ H Q := h
theorem rd_ifE (h : tt σ H fun c H1 => if c = true then ta σ H1 Q else tb σ H1 Q) : tIf tt ta tb σ H Q := h
theorem rd_tup (h : tl σ H fun xs H1 => xs.length ≤ sizeLine ∧ ∀ p, H1 p = none → Q (.ref p) (upd H1 p (.tup xs))) : tTup tl σ H Q := h
theorem rd_lst (h : tl σ H fun xs H1 => xs.length ≤ sizeLine ∧ ∀ p, H1 p = none → Q (.ref p) (upd H1 p (.lst xs))) : tLst tl σ H Q := h
theorem rd_call {sp : Sp} {dvs : List V} {EE : St → XK} (h : tl σ H fun vs H1 => sp (vs ++ dvs) H1 Q (EE σ)) : tCallSD sp dvs EE tl σ H Q := h
theorem rd_joined {ts : List TE} (h : tJs ts Str.empty σ H fun out H1 => Q (.str out) H1) : tJoined ts σ H Q := h
theorem rd_raise {mk : St → Hp → XK → Prop} (h : mk σ H fun cls d H' => W cls d σ H') : tRaise mk W D σ H := h
theorem rd_mkx {C : Addr} {f : Str} {R : XK} (h : tl σ H fun vs H1 => ∃ v, vs = [v] ∧ ∀ d, H1 d = none → R (.ref C) (some d) (upd H1 d (.xd [(f, v)]))) : tMkX C f tl σ H R := h
theorem rd_mkx0 {C : Addr} {R : XK} (h : R (.ref C) none H) : tMkX0 C σ H R := h
theorem rd_try {tbb : WX → TS} {l : List Clause} (h : tbb (wMix K W D l) D σ H) : tTry K W tbb l D σ H := h
theorem rd_sl {r : SlV} {tlo thi : TO} (h : ta σ H fun x H1 => tlo σ H1 fun l H2 => thi σ H2 fun u H3 => r x l u H3 Q) : tSl r ta tlo thi σ H Q := h
theorem rd_nopart {R : Option Int → Hp → Prop} (h : R none H) : tNoPart σ H R := h
theorem rd_part {R : Option Int → Hp → Prop} (h : ta σ H fun x H1 => ∃ i, x = .int i ∧ R (some i) H1) : tPart ta σ H R := h
theorem rd_ofint {j : Int} {R : Option Int → Hp → Prop} (h : R (some j) H) : ∃ i, V.int j = .int i ∧ R (some i) H := ⟨j, rfl, h⟩
theorem rd_chain {r r' : R2} (h : ta σ H fun x H1 => tb σ H1 fun y H2 => r x y H2 fun z H3 => ∃ k, z = .bl k ∧ if k = true then tc σ H3 fun w H4 => r' y w H4 Q else Q (.bl false) H3) : tChain r r' ta tb tc σ H Q := h
/-- the ways of an if whose test is a decision -/
theorem rd_ite {c : Prop} [Decidable c] {A B : Prop} (h1 : c → A) (h2 : ¬ c → B) : if decide c = true then A else B := by
  by_cases h : c
  · rw [decide_eq_true h]; exact h1 h
  · rw [decide_eq_false h]; exact h2 h
theorem rd_iteN {c : Prop} [Decidable c] {A B : Prop} (h1 : ¬ c → A) (h2 : c → B) : if (!decide c) = true then A else B := by
  by_cases h : c
  · rw [decide_eq_true h]; exact h2 h
  · rw [decide_eq_false h]; exact h1 h
theorem rd_iteT {A B : Prop} (h : A) : if true = true then A else B := h
theorem rd_iteF {A B : Prop} (h : B) : if false = true then A else B := h
/-! ### loops -/
/-- for k in range(n) -/
theorem rd_forR {n : Int} {H1 : Hp} (Pv : Nat → St → Hp → Prop) (hn : -(2 ^ 62) ≤ n) (hn' : n < 2 ^ 62) (h0 : Pv 0 σ H1)
    (hs : ∀ (i : Nat) σ H, (i : Int) < n → Pv i σ H → g (.int i) σ H fun σ2 H2 => t { D with nx := Pv (i + 1), bk := D.nx, ct := Pv (i + 1) } σ2 H2) (hd : ∀ σ H, Pv n.toNat σ H → D.nx σ H) (h : tl σ H fun vs H2 => vs = [.int n] ∧ H2 = H1)
    (hm : ∀ {P P' : List V → Hp → Prop}, (∀ b H, P b H → P' b H) → tl σ H P → tl σ H P') : tFor (iRng1 tl) g t D σ H := by
  refine hm ?_ h
  rintro vs H2 ⟨rfl, rfl⟩
  refine ⟨n, rfl, hn, hn', for_range (lo := 0) Pv h0 (fun i σ H hi p => ?_) hd⟩
  have := hs i σ H (by omega) p
  rw [Int.zero_add]
  exact this
theorem rd_forR1 {n : Int} {R : (It → Hp → Prop)} {H1 : Hp} (hn : -(2 ^ 62) ≤ n) (hn' : n < 2 ^ 62) (h : R (Itr 0 n.toNat) H1) : ∃ j : Int, [V.int n] = [.int j] ∧ -(2 ^ 62) ≤ j ∧ j < 2 ^ 62 ∧ R (Itr 0 j.toNat) H1 := ⟨n, rfl, hn, hn', h⟩
theorem forR {n : Int} {D : Ends} {σ : St} {H : Hp} (Pv : Nat → St → Hp → Prop) (h0 : Pv 0 σ H)
    (hs : ∀ (i : Nat) σ H, (i : Int) < n → Pv i σ H → g (.int i) σ H fun σ2 H2 => t { D with nx := Pv (i + 1), bk := D.nx, ct := Pv (i + 1) } σ2 H2) (hd : ∀ σ H, Pv n.toNat σ H → D.nx σ H) :
    ∃ W : Nat → Nat → St → Hp → Prop, (∃ m, W 0 m σ H) ∧ ∀ i m σ H, W i m σ H →
      ((Itr 0 n.toNat).stop i H ∧ D.nx σ H) ∨ ((Itr 0 n.toNat).go i H ∧ ∃ N : St → Hp → Prop, (∀ σ' H', N σ' H' → ∃ m', m' < m ∧ W (i + 1) m' σ' H') ∧ ∀ x H', (Itr 0 n.toNat).yld i H x H' → g x σ H' fun σ2 H2 => t { D with nx := N, ct := N, bk := D.nx } σ2 H2) :=
  for_range (lo := 0) Pv h0 (fun i σ H hi p => by rw [Int.zero_add]; exact hs i σ H (by omega) p) hd
theorem walk_enumS {z : Str} : Walk (Ites z) z.cps.size (fun _ => True) (fun i H v H' => ∃ T c, v = .ref T ∧ H T = none ∧ z.cps[i]? = some c ∧ H' = upd H T (.tup [.int (i : Nat), .str ⟨#[c]⟩])) :=
  ⟨fun _ _ hi _ => hi, fun _ _ => rfl, fun _ _ _ _ _ _ y => y⟩
theorem rd_yes (h : B true H) : tYes σ H B := h
/-- a comprehension over range(n) -/
theorem lcR {n : Int} {te : TE} {vs : List Nat} {H1 : Hp} {L : Addr} {Qd : Hp → Prop} (Pv : Nat → Hp → Prop) (h0 : Pv 0 (upd H1 L (.lst [])))
    (hs : ∀ (i : Nat) H, (i : Int) < n → Pv i H → g (.int i) (wipe σ vs) H fun σ2 H2 => wipe σ2 vs = wipe σ vs ∧ tt σ2 H2 fun b H3 =>
      if b = true then te σ2 H3 fun y H4 => ∃ acc, H4 L = some (.lst acc) ∧ acc.length < sizeLine ∧ Pv (i + 1) (upd H4 L (.lst (acc ++ [y]))) else Pv (i + 1) H3) (hd : ∀ H, Pv n.toNat H → Qd H) :
    ∃ W : Nat → Nat → Hp → Prop, (∃ m, W 0 m (upd H1 L (.lst []))) ∧ ∀ i m H, W i m H →
      ((Itr 0 n.toNat).stop i H ∧ Qd H) ∨ ((Itr 0 n.toNat).go i H ∧ ∃ Nx : Hp → Prop, (∀ H', Nx H' → ∃ m', m' < m ∧ W (i + 1) m' H') ∧ ∀ x H', (Itr 0 n.toNat).yld i H x H' → g x (wipe σ vs) H' fun σ2 H2 => wipe σ2 vs = wipe σ vs ∧ tt σ2 H2 fun b H3 =>
        if b = true then te σ2 H3 fun y H4 => ∃ acc, H4 L = some (.lst acc) ∧ acc.length < sizeLine ∧ Nx (upd H4 L (.lst (acc ++ [y]))) else Nx H3) :=
  lc_range (lo := 0) Pv h0 (fun i H hi p => by rw [Int.zero_add]; exact hs i H (by omega) p) hd
end
end L2

/-! list(zip(text, list)). -/
namespace Rz
open PySem PySem.Spec PyProof.Rows
open PySem.W (kdx_alive)
section
variable {prog : Program} {w : World} {A : Around} {E : Value → Shared → Prop} {s : Shared} {z TI TO i1 i2 : Addr} {fp1 fp2 : List Addr} {n i : Nat} {P1 P2 : Nat → Value → Prop} {St1 St2 : Nat → Heap → Prop} {T : Addr} {f : Bool} {oT : Obj}
/-- the next pair, while the pair handed out before is still held by someone -/
theorem held_next {Q : Value → Shared → Prop} (S : ZipSep2 z TI TO i1 i2 fp1 fp2) (D1 : Draws prog w A i1 fp1 n P1 St1) (D2 : Draws prog w A i2 fp2 n P2 St2)
    (hz : IsZipHeld s.heap z TI TO T f) (hT : s.heap.get? T = some oT) (hTI : IsTupOf2 s.heap TI (.ref i1) (.ref i2)) (s1 : St1 i s.heap) (s2 : St2 i s.heap) (hi : i < n)
    (hQ : ∀ x y h' tk, P1 i x → P2 i y → IsZipHeld h' z TI TO T true → St1 (i + 1) h' → St2 (i + 1) h' → IsTupOf2 h' s.heap.objs.size x y → h'.objs.size = s.heap.objs.size + 1 →
      (∀ c o, c ≠ z → c ≠ i1 → c ≠ i2 → s.heap.get? c = some o → h'.get? c = some o) → Q (.ref s.heap.objs.size) { s with heap := h', toks := tk }) :
    wpAny (model prog w) A (Builtin.«zip.__next__» ⟨[.ref z], []⟩) (fun fin s' => ∃ v, fin = .done (.ret v) ∧ Q v s') E s := by
  obtain ⟨hp, g, d, tk0, os⟩ := s
  show wpAny (model prog w) A (field (.ref z) 2 >>= _) _ E _
  refine wpAny_bind (wpAny_field hz rfl (x := Value.bool false) rfl ?_)
  show wpAny (model prog w) A (field (.ref z) 3 >>= _) _ E _
  refine wpAny_bind (wpAny_field hz rfl (x := Value.ref TI) rfl ?_)
  refine wpAny_bind (wpAny_seqItems hTI rfl ?_)
  show wpAny (model prog w) A (Builtin.SmallTypes.ownedTupleIsFree (.ref z) >>= _) _ E _
  refine wpAny_bind (wpAny_tupleHeld_zip hz hT fun p0 hz0 q0 => ?_)
  replace q0 : Heap.SameBut z hp p0 := q0
  replace hz0 : IsZipHeld p0 z TI TO T true := hz0
  simp only [Bool.false_eq_true, if_false]
  refine wpAny_bind ?_
  rw [← Array.forIn_toList]
  simp only [List.forIn_cons, List.forIn_nil]
  refine wpAny_bind (wpAny_bind (wpAny_holding ?_))
  show wpAny (model prog w) A (Builtin.SmallTypes.nextOf (.ref i1) >>= _) _ E ⟨p0, g, d, tk0, os⟩
  refine wpAny_bind (D1.item i _ _ _ hi (D1.over s1 q0 S.zf1) fun x p1 t1 hx a1 q1 => wpAny_pure ?_)
  replace q1 : Heap.SameBut i1 p0 p1 := q1
  refine wpAny_pure ?_
  refine wpAny_bind (wpAny_bind (wpAny_holding ?_))
  show wpAny (model prog w) A (Builtin.SmallTypes.nextOf (.ref i2) >>= _) _ E ⟨p1, g, d, t1, os⟩
  refine wpAny_bind (D2.item i _ _ _ hi (D2.over (D2.over s2 q0 S.zf2) q1 S.sep1_2) fun y p2 t2 hy a2 q2 => wpAny_pure ?_)
  replace q2 : Heap.SameBut i2 p1 p2 := q2
  refine wpAny_pure (wpAny_pure ?_)
  show wpAny (model prog w) A (newTuple [x, y] >>= _) _ E ⟨p2, g, d, t2, os⟩
  refine wpAny_bind (wpAny_newTuple ?_)
  have size2 : p2.objs.size = hp.objs.size := by rw [q2.1, q1.1, q0.1]
  have z2 : IsZipHeld p2 z TI TO T true := q2.extBut _ _ S.zi2 (q1.extBut _ _ S.zi1 hz0)
  have b1 : St1 (i + 1) p2 := D1.over a1 q2 S.sep2_1
  have kp : ∀ c o, c ≠ z → c ≠ i1 → c ≠ i2 → hp.get? c = some o → p2.get? c = some o := fun c o c1 c2 c3 e => q2.extBut _ _ c3 (q1.extBut _ _ c2 (q0.extBut _ _ c1 e))
  refine wpAny_pure ⟨_, rfl, ?_⟩
  show Q (.ref p2.objs.size) _
  have new : IsTupOf2 (p2.push { cls := .type "tuple", data := .seq #[x, y] }) p2.objs.size x y := Heap.get?_push_size _ rfl
  have sz : (p2.push { cls := .type "tuple", data := .seq #[x, y] }).objs.size = p2.objs.size + 1 := Heap.size_push ..
  rw [size2] at new sz ⊢
  exact hQ x y _ t2 hx hy (Heap.get?_push_of_some _ z2) (D1.frame _ _ _ b1 fun b _ o e => Heap.get?_push_of_some _ e) (D2.frame _ _ _ a2 fun b _ o e => Heap.get?_push_of_some _ e) new sz fun c o c1 c2 c3 e => Heap.get?_push_of_some _ (kp c o c1 c2 c3 e)
theorem held_end {Q : Fin → Shared → Prop} (S : ZipSep2 z TI TO i1 i2 fp1 fp2) (D1 : Draws prog w A i1 fp1 n P1 St1)
    (hz : IsZipHeld s.heap z TI TO T f) (hT : s.heap.get? T = some oT) (hTI : IsTupOf2 s.heap TI (.ref i1) (.ref i2)) (s1 : St1 n s.heap)
    (hE : ∀ h' e, (∀ c o, c ≠ z → c ≠ i1 → s.heap.get? c = some o → h'.get? c = some o) → (∃ o, h'.get? e = some o ∧ o.cls = .type "StopIteration") → E (.ref e) { s with heap := h' }) :
    wpAny (model prog w) A (Builtin.«zip.__next__» ⟨[.ref z], []⟩) Q E s := by
  obtain ⟨hp, g, d, tk0, os⟩ := s
  show wpAny (model prog w) A (field (.ref z) 2 >>= _) _ E _
  refine wpAny_bind (wpAny_field hz rfl (x := Value.bool false) rfl ?_)
  show wpAny (model prog w) A (field (.ref z) 3 >>= _) _ E _
  refine wpAny_bind (wpAny_field hz rfl (x := Value.ref TI) rfl ?_)
  refine wpAny_bind (wpAny_seqItems hTI rfl ?_)
  show wpAny (model prog w) A (Builtin.SmallTypes.ownedTupleIsFree (.ref z) >>= _) _ E _
  refine wpAny_bind (wpAny_tupleHeld_zip hz hT fun p0 hz0 q0 => ?_)
  replace q0 : Heap.SameBut z hp p0 := q0
  simp only [Bool.false_eq_true, if_false]
  refine wpAny_bind ?_
  rw [← Array.forIn_toList]
  simp only [List.forIn_cons, List.forIn_nil]
  refine wpAny_bind (wpAny_bind (wpAny_holding ?_))
  show wpAny (model prog w) A (Builtin.SmallTypes.nextOf (.ref i1) >>= _) _ E ⟨p0, g, d, tk0, os⟩
  refine wpAny_bind (D1.done ⟨p0, g, d, tk0, os⟩ _ _ (D1.over s1 q0 S.zf1) fun p1 e q1 he => ?_)
  replace q1 : Heap.ExtBut i1 p0 p1 := q1
  exact hE p1 e (fun c o c1 c2 u => q1 _ _ c2 (q0.extBut _ _ c1 u)) he
end
/-- where the walk stands -/
def ZAt (St1 St2 : Nat → Heap → Prop) (z TI TO i1 i2 L : Addr) (i : Nat) (h : Heap) : Prop :=
  IsTupOf2 h TI (.ref i1) (.ref i2) ∧ St1 i h ∧ St2 i h ∧ ((i = 0 ∧ IsZip h z TI TO .none ∧ IsTupOf2 h TO .none .none) ∨ ∃ T f oT, IsZipHeld h z TI TO T f ∧ h.get? T = some oT ∧ T ≠ z ∧ T ≠ i1 ∧ T ≠ i2 ∧ T ≠ L)
/-- the pairs so far -/
structure ZTold (P1 P2 : Nat → Value → Prop) (lo : Addr) (h : Heap) (as : List Addr) : Prop where
  rise : as.Pairwise (· < ·)
  above : ∀ a ∈ as, lo < a
  two : ∀ (j : Nat) (a : Addr), as[j]? = some a → ∃ x y, P1 j x ∧ P2 j y ∧ IsTupOf2 h a x y
theorem ZTold.low {P1 P2 : Nat → Value → Prop} {lo : Addr} {h : Heap} {as : List Addr} (t : ZTold P1 P2 lo h as) {a : Addr} (m : a ∈ as) : a < h.objs.size := by
  obtain ⟨j, e⟩ := List.mem_iff_getElem?.mp m
  obtain ⟨_, _, _, _, q⟩ := t.two j a e
  exact Heap.lt_size q
section
variable {prog : Program} {w : World} {A : Around} {s : Shared} {z TI TO i1 i2 L : Addr} {fp1 fp2 : List Addr} {n i : Nat} {P1 P2 : Nat → Value → Prop} {St1 St2 : Nat → Heap → Prop}
theorem z_item {E : Value → Shared → Prop} {Q : Option Value → Shared → Prop} (S : ZipSep2 z TI TO i1 i2 fp1 fp2) (D1 : Draws prog w A.in1 i1 fp1 n P1 St1) (D2 : Draws prog w A.in1 i2 fp2 n P2 St2) (st : ZAt St1 St2 z TI TO i1 i2 L i s.heap) (hi : i < n) (hL : L < s.heap.objs.size) (hLz : L ≠ TI)
    (hQ : ∀ x y h' tk, P1 i x → P2 i y → ZAt St1 St2 z TI TO i1 i2 L (i + 1) h' → IsTupOf2 h' s.heap.objs.size x y → h'.objs.size = s.heap.objs.size + 1 →
      (∀ c o, c ≠ z → c ≠ TO → c ≠ i1 → c ≠ i2 → s.heap.get? c = some o → h'.get? c = some o) → Q (some (.ref s.heap.objs.size)) { s with heap := h', toks := tk }) :
    wpAny (model prog w) A (pyNext (.ref z)) Q E s := by
  obtain ⟨hTI, s1, s2, st⟩ := st
  have l1 : i1 < s.heap.objs.size := let ⟨_, e⟩ := D1.live _ _ s1; Heap.lt_size e
  have l2 : i2 < s.heap.objs.size := let ⟨_, e⟩ := D2.live _ _ s2; Heap.lt_size e
  rcases st with ⟨e0, hz, hTO⟩ | ⟨T, f, oT, hz, hT, n1, n2, n3, n4⟩
  · have lz : z < s.heap.objs.size := Heap.lt_size hz
    refine wpAny_pyNext_zipD2_item S D1 D2 hz hTI hTO s1 s2 hi hi fun x y h' tk hx hy hz' _ a1 a2 tup sz kp => ?_
    exact hQ x y h' tk hx hy ⟨kp _ _ S.TIz S.TITO S.TIi1 S.TIi2 hTI, a1, a2, .inr ⟨_, false, _, hz', tup, Nat.ne_of_gt lz, Nat.ne_of_gt l1, Nat.ne_of_gt l2, Nat.ne_of_gt hL⟩⟩ tup sz kp
  · have ty : s.TypeIs (.ref z) "zip" := ⟨_, hz, rfl⟩
    unfold pyNext
    refine wpAny_bind (wpAny_attempt (wpAny_callSpecial?_slot (name := Str.ofString "__next__") ty F.slot_zip_next (wpAny_call_entry F.slot_zip_next ty F.entry_zip_next ?_ (F.args_zip_next_1 _))))
    refine held_next S D1 D2 hz hT hTI s1 s2 hi fun x y h' tk hx hy hz' a1 a2 tup sz kp => wpAny_pure ?_
    exact hQ x y h' tk hx hy ⟨kp _ _ S.TIz S.TIi1 S.TIi2 hTI, a1, a2, .inr ⟨T, true, oT, hz', kp _ _ n1 n2 n3 hT, n1, n2, n3, n4⟩⟩ tup sz fun c o c1 _ c3 c4 e => kp c o c1 c3 c4 e
theorem z_end {E : Value → Shared → Prop} {Q : Option Value → Shared → Prop} (S : ZipSep2 z TI TO i1 i2 fp1 fp2) (D1 : Draws prog w A.in1 i1 fp1 n P1 St1) (D2 : Draws prog w A.in1 i2 fp2 n P2 St2) (st : ZAt St1 St2 z TI TO i1 i2 L n s.heap)
    (hQ : ∀ h' tk, (∀ c o, c ≠ z → c ≠ TO → c ≠ i1 → c ≠ i2 → s.heap.get? c = some o → h'.get? c = some o) → Q none { s with heap := h', toks := tk }) :
    wpAny (model prog w) A (pyNext (.ref z)) Q E s := by
  obtain ⟨hTI, s1, s2, st⟩ := st
  rcases st with ⟨e0, hz, hTO⟩ | ⟨T, f, oT, hz, hT, n1, n2, n3, n4⟩
  · exact wpAny_pyNext_zipD2_end S D1 D2 hz hTI hTO s1 s2 (Nat.le_refl _) (Nat.le_refl _) (.inl rfl) hQ
  · have ty : s.TypeIs (.ref z) "zip" := ⟨_, hz, rfl⟩
    unfold pyNext
    refine wpAny_bind (wpAny_attempt (wpAny_callSpecial?_slot (name := Str.ofString "__next__") ty F.slot_zip_next (wpAny_call_entry F.slot_zip_next ty F.entry_zip_next ?_ (F.args_zip_next_1 _))))
    refine held_end S D1 hz hT hTI s1 fun h' e kp he => ?_
    obtain ⟨o, ho, hc⟩ := he
    refine wpAny_bind (wpAny_isInstance (T := "StopIteration") (b := true) ⟨o, ho, hc⟩ isSubtype_stop ?_)
    exact wpAny_pure (hQ _ _ fun c o c1 _ c3 _ e => kp c o c1 c3 e)
/-- the draining into the new list at L -/
theorem z_loop {R : Result → Shared → Prop} (S : ZipSep2 z TI TO i1 i2 fp1 fp2) (D1 : Draws prog w A.in1.in1 i1 fp1 n P1 St1) (D2 : Draws prog w A.in1.in1 i2 fp2 n P2 St2) (hf1 : L ∉ fp1) (hf2 : L ∉ fp2) (hLz : L ≠ z) (hLT : L ≠ TI) (hLO : L ≠ TO) (cells : ∀ c, c = z ∨ c = TO ∨ c = i1 ∨ c = i2 → c < L) (hn : n ≤ sizeLine) (res : Value) {h0 : Heap}
    (hR : ∀ h' tk acc c as, (∀ b o, b ≠ L → b ≠ z → b ≠ TO → b ≠ i1 → b ≠ i2 → h0.get? b = some o → h'.get? b = some o) → h'.get? L = some { cls := .type "list", dict := none, data := .seq acc c, slots := #[] } → as.length = n → ZTold P1 P2 L h' as →
      acc.toList = as.map Value.ref → R (.ok (.ret res)) { s with heap := h', toks := tk }) :
    ∀ (k i : Nat) (h : Heap) (tk c : Nat) (acc : Array Value) (as : List Addr), n - i = k → i ≤ n → ZAt St1 St2 z TI TO i1 i2 L i h → (∀ b o, b ≠ L → b ≠ z → b ≠ TO → b ≠ i1 → b ≠ i2 → h0.get? b = some o → h.get? b = some o) →
      h.get? L = some { cls := .type "list", dict := none, data := .seq acc c, slots := #[] } → acc.toList = as.map Value.ref → as.length = i → ZTold P1 P2 L h as →
      codeAny (model prog w) A (.builtin "list.extend.loop" ⟨[.ref L, .ref z, res], []⟩) R { s with heap := h, toks := tk } := by
  have off : ∀ {b : Addr}, L ≤ b → b ≠ z ∧ b ≠ TO ∧ b ≠ i1 ∧ b ≠ i2 := fun {b} q =>
    ⟨fun e => absurd (cells z (.inl rfl)) (by rw [← e]; exact Nat.not_lt.mpr q), fun e => absurd (cells TO (.inr (.inl rfl))) (by rw [← e]; exact Nat.not_lt.mpr q), fun e => absurd (cells i1 (.inr (.inr (.inl rfl)))) (by rw [← e]; exact Nat.not_lt.mpr q), fun e => absurd (cells i2 (.inr (.inr (.inr rfl)))) (by rw [← e]; exact Nat.not_lt.mpr q)⟩
  intro k
  induction k with
  | zero =>
    intro i h tk c acc as hk hi st kp hL hacc hal told
    obtain rfl : i = n := by omega
    obtain ⟨o1, o2, o3, o4⟩ := off (Nat.le_refl L)
    refine codeAny_builtin F.entry_extend_loop ?_
    rw [Around.under_plainId F.plain_extend_loop _]
    show wpAny (model prog w) A.in1 (pyNext (.ref z) >>= _) _ _ _
    refine wpAny_bind (z_end (s := { s with heap := h, toks := tk }) S D1 D2 st fun h' tk' kq => wpAny_pure ?_)
    refine hR h' tk' acc c as (fun b o b0 b1 b2 b3 b4 e => kq b o b1 b2 b3 b4 (kp b o b0 b1 b2 b3 b4 e)) (kq L _ o1 o2 o3 o4 hL) hal ⟨told.rise, told.above, fun j a hj => ?_⟩ hacc
    obtain ⟨x, y, e1, e2, e3⟩ := told.two j a hj
    obtain ⟨q1, q2, q3, q4⟩ := off (Nat.le_of_lt (told.above a (List.mem_of_getElem? hj)))
    exact ⟨x, y, e1, e2, kq a _ q1 q2 q3 q4 e3⟩
  | succ k ih =>
    intro i h tk c acc as hk hi st kp hL hacc hal told
    have hlt : i < n := by omega
    have hsz : acc.size = i := by rw [← Array.length_toList, hacc, List.length_map, hal]
    have lL : L < h.objs.size := Heap.lt_size hL
    obtain ⟨o1, o2, o3, o4⟩ := off (Nat.le_refl L)
    refine codeAny_builtin F.entry_extend_loop ?_
    rw [Around.under_plainId F.plain_extend_loop _]
    show wpAny (model prog w) A.in1 (pyNext (.ref z) >>= _) _ _ _
    refine wpAny_bind (z_item (s := { s with heap := h, toks := tk }) S D1 D2 st hlt lL hLT fun x y h' tk' hx hy st' tup sz kq => ?_)
    dsimp only at tup sz kq ⊢
    have hL' := kq L _ o1 o2 o3 o4 hL
    have up : ∀ b o, b ≠ L → h'.get? b = some o → (h'.update L (Obj.mapSeq (·.push (Value.ref h.objs.size)))).get? b = some o := fun b o hb e => (Heap.get?_update_other _ _ (Ne.symm hb)).trans e
    have far : h.objs.size ≠ L := Nat.ne_of_gt lL
    show wpAny (model prog w) A.in1 (updateSeq L (·.push (Value.ref h.objs.size)) >>= _) _ _ _
    refine wpAny_bind (wpAny_updateSeq hL' rfl ?_ (by rw [hsz]; omega) (by show (acc.push (Value.ref h.objs.size)).size ≤ sizeLine + 1; rw [Array.size_push, hsz]; omega))
    refine wpAny_pure ⟨plainId_quiet F.plain_extend_loop _, ?_⟩
    refine ih (i + 1) _ tk' _ (acc.push (Value.ref h.objs.size)) (as ++ [h.objs.size]) (by omega) hlt ?_ (fun b o b0 b1 b2 b3 b4 e => up b o b0 (kq b o b1 b2 b3 b4 (kp b o b0 b1 b2 b3 b4 e))) (Heap.get?_update_self _ hL' rfl) (by rw [Array.toList_push, hacc, List.map_append]; rfl) (by rw [List.length_append, hal]; rfl) ⟨?_, ?_, ?_⟩
    · obtain ⟨t1, t2, t3, t4⟩ := st'
      refine ⟨up _ _ (Ne.symm hLT) t1, D1.frame _ _ _ t2 fun b hb o e => up b o (fun q => hf1 (q ▸ hb)) e, D2.frame _ _ _ t3 fun b hb o e => up b o (fun q => hf2 (q ▸ hb)) e, ?_⟩
      rcases t4 with ⟨e0, e1, e2⟩ | ⟨T, f, oT, e1, e2, m1, m2, m3, m4⟩
      · exact .inl ⟨e0, up _ _ (Ne.symm hLz) e1, up _ _ (Ne.symm hLO) e2⟩
      · exact .inr ⟨T, f, oT, up _ _ (Ne.symm hLz) e1, up _ _ m4 e2, m1, m2, m3, m4⟩
    · refine List.pairwise_append.mpr ⟨told.rise, List.pairwise_singleton _ _, fun a ha b hb => ?_⟩
      rw [List.mem_singleton.mp hb]
      exact told.low ha
    · intro a ha
      rcases List.mem_append.mp ha with ha | ha
      · exact told.above a ha
      · rw [List.mem_singleton.mp ha]; exact lL
    · intro j b hj
      rcases Nat.lt_trichotomy j as.length with q | q | q
      · rw [List.getElem?_append_left q] at hj
        obtain ⟨x', y', e1, e2, e3⟩ := told.two j b hj
        have hb := told.above b (List.mem_of_getElem? hj)
        obtain ⟨r1, r2, r3, r4⟩ := off (Nat.le_of_lt hb)
        exact ⟨x', y', e1, e2, up b _ (Nat.ne_of_gt hb) (kq b _ r1 r2 r3 r4 e3)⟩
      · subst q
        have hb : h.objs.size = b := by simpa using hj
        rw [← hb]
        exact ⟨x, y, by rw [hal]; exact hx, by rw [hal]; exact hy, up _ _ far tup⟩
      · rw [List.getElem?_eq_none (by rw [List.length_append, List.length_singleton]; omega)] at hj
        cases hj
end
theorem zip_no_len : typeLookup (.type "zip") "__len__" = pure none := am_miss_of_fast (by decide +kernel)
theorem zip_no_hint : typeLookup (.type "zip") "__length_hint__" = pure none := am_miss_of_fast (by decide +kernel)
section
variable {prog : Program} {w : World} {A : Around} {s : Shared} {z TI TO i1 i2 L : Addr} {fp1 fp2 : List Addr} {n i : Nat} {P1 P2 : Nat → Value → Prop} {St1 St2 : Nat → Heap → Prop}
theorem z_list {Q : Value → Shared → Prop} {E : Value → Shared → Prop} (S : ZipSep2 z TI TO i1 i2 fp1 fp2) (D1 : Draws prog w A.in1.in1.in1 i1 fp1 n P1 St1) (D2 : Draws prog w A.in1.in1.in1 i2 fp2 n P2 St2) (low : ∀ c, c ∈ fp1 ∨ c ∈ fp2 → c < s.heap.objs.size) (hn : n ≤ sizeLine)
    (hz : IsZip s.heap z TI TO .none) (hTI : IsTupOf2 s.heap TI (.ref i1) (.ref i2)) (hTO : IsTupOf2 s.heap TO .none .none) (s1 : St1 0 s.heap) (s2 : St2 0 s.heap)
    (hQ : ∀ h' tk acc c as, (∀ b o, b ≠ z → b ≠ TO → b ≠ i1 → b ≠ i2 → s.heap.get? b = some o → h'.get? b = some o) → h'.get? s.heap.objs.size = some { cls := .type "list", dict := none, data := .seq acc c, slots := #[] } → as.length = n → ZTold P1 P2 s.heap.objs.size h' as →
      acc.toList = as.map Value.ref → Q (.ref s.heap.objs.size) { s with heap := h', toks := tk }) :
    wpAny (model prog w) A (call (.type "list") [.ref z]) Q E s := by
  have lz : z < s.heap.objs.size := Heap.lt_size hz
  have lTI : TI < s.heap.objs.size := Heap.lt_size hTI
  have lTO : TO < s.heap.objs.size := Heap.lt_size hTO
  have l1 : i1 < s.heap.objs.size := low _ (.inl S.mem1)
  have l2 : i2 < s.heap.objs.size := low _ (.inr S.mem2)
  refine callType_codes (Q₁ := fun obj t => obj = .ref s.heap.objs.size ∧ t = { s with heap := s.heap.push { cls := .type "list", data := .seq #[] } }) F.called_list (F.typeCall_list_1 _) F.entry_list_init
    (code_list_new _ ⟨rfl, rfl⟩) fun obj t ht => ?_
  obtain ⟨rfl, rfl⟩ := ht
  have hL : (s.heap.push { cls := .type "list", data := .seq #[] }).get? s.heap.objs.size = some { cls := .type "list", data := .seq #[] } := Heap.get?_push_size _ rfl
  generalize eL : s.heap.objs.size = L at *
  refine ⟨⟨_, hL, rfl⟩, F.args_list_init_2 _ _, ?_⟩
  have mk : ∀ b o, s.heap.get? b = some o → (s.heap.push { cls := .type "list", data := .seq #[] }).get? b = some o := fun b o e => Heap.get?_push_of_some _ e
  show wpAny (model prog w) A.in1.in1 (do let old ← Builtin.List.listItems (.ref L); Builtin.List.listUpdate (.ref L) (fun _ => #[]); letGo old.toList.reverse; Builtin.List.listExtendWith (.ref L) (.ref z) .none) _ _ _
  refine wpAny_bind ?_
  unfold Builtin.List.listItems
  refine wpAny_bind (wpAny_seqItems hL rfl (wpAny_pure ?_))
  show wpAny (model prog w) A.in1.in1 (updateSeq L (fun _ => #[]) >>= fun _ => letGo (#[] : Array Value).toList.reverse >>= fun _ => Builtin.List.listExtendWith (.ref L) (.ref z) .none) _ _ _
  refine wpAny_bind (wpAny_updateSeq hL rfl ?_)
  have hL2 := Heap.get?_update_self (Obj.mapSeq (fun _ => (#[] : Array Value))) hL rfl
  have up : ∀ (h : Heap) (f : Obj → Obj), (∀ b o, s.heap.get? b = some o → h.get? b = some o) → ∀ b o, s.heap.get? b = some o → (h.update L f).get? b = some o := fun h f q b o e => (Heap.get?_update_other _ _ (fun q => by have := Heap.lt_size e; rw [eL, ← q] at this; exact Nat.lt_irrefl _ this)).trans (q b o e)
  have mk2 := up _ (Obj.mapSeq (fun _ => (#[] : Array Value))) mk
  refine wpAny_bind (wpAny_letGo ?_)
  unfold Builtin.List.listExtendWith
  have ty : ∀ {h : Heap} {q : Nat}, (∀ b o, s.heap.get? b = some o → h.get? b = some o) → ({ s with heap := h, toks := q } : Shared).TypeIs (.ref z) "zip" := fun {h q} k => ⟨_, k z _ hz, rfl⟩
  refine wpAny_bind (wpAny_typeOf (T := "zip") (ty mk2) ?_)
  have r1 : Builtin.List.listSameRef (.ref L) (.ref z) = false := by simp [Builtin.List.listSameRef, Nat.ne_of_gt lz]
  have r2 : (Value.type "zip" == Value.type "list") = false := by decide
  have r3 : (Value.type "zip" == Value.type "tuple") = false := by decide
  simp only [r1, r2, r3, Bool.or_false, Bool.false_eq_true, if_false]
  refine wpAny_bind (wpAny_pyIter_zip (mk2 _ _ hz) ?_)
  refine wpAny_bind (wpAny_holding ?_)
  unfold Builtin.List.listLengthHint
  refine wpAny_bind (wpAny_specialOf (ty mk2) zip_no_len ?_)
  show wpAny (model prog w) A.in1.in1 (specialOf (Value.ref z) (Str.ofString "__length_hint__") >>= _) _ _ _
  refine wpAny_bind (wpAny_specialOf (ty mk2) zip_no_hint ?_)
  refine wpAny_pure ?_
  show wpAny (model prog w) A.in1.in1 (rule "list.extend.makes-room" >>= fun _ => Builtin.List.listTouch (.ref L) >>= fun _ =>
    again (.builtin "list.extend.loop" ⟨[.ref L, .ref z, .none], []⟩)) _ _ _
  refine wpAny_bind (wpAny_rule (wpAny_bind ?_))
  show wpAny (model prog w) A.in1.in1 (updateSeq L (·.push .none) >>= fun _ => updateSeq L (·.pop)) _ _ _
  refine wpAny_bind (wpAny_updateSeq hL2 rfl ?_)
  have hL3 := Heap.get?_update_self (Obj.mapSeq (·.push Value.none)) hL2 rfl
  refine wpAny_updateSeq (hz := by seq_fits) hL3 rfl ?_
  have hL4 := Heap.get?_update_self (Obj.mapSeq (·.pop)) hL3 rfl
  have mk4 := up _ (Obj.mapSeq (·.pop)) (up _ (Obj.mapSeq (·.push Value.none)) mk2)
  refine wpAny_pure ⟨plainId_quiet F.plain_extend_loop _, ?_⟩
  refine z_loop (A := A.in1) (h0 := s.heap) S D1 D2 (fun q => Nat.lt_irrefl _ (low _ (.inl q))) (fun q => Nat.lt_irrefl _ (low _ (.inr q))) (Nat.ne_of_gt lz) (Nat.ne_of_gt lTI) (Nat.ne_of_gt lTO) ?_ hn .none (fun h' tk acc c as kp hL' hl told hacc => ?_)
    n 0 _ _ _ #[] [] (Nat.sub_zero _) (Nat.zero_le _) ?_ (fun b o _ _ _ _ _ e => mk4 b o e) hL4 rfl rfl ⟨List.Pairwise.nil, fun _ m => (nomatch m), fun j a e => by simp at e⟩
  · rintro c (e | e | e | e)
    · rw [e]; exact lz
    · rw [e]; exact lTO
    · rw [e]; exact l1
    · rw [e]; exact l2
  · exact ⟨rfl, hQ h' tk acc c as (fun b o b1 b2 b3 b4 e => kp b o (fun q => by have := Heap.lt_size e; rw [eL, q] at this; exact Nat.lt_irrefl _ this) b1 b2 b3 b4 e) hL' hl told hacc⟩
  · exact ⟨mk4 _ _ hTI, D1.frame _ _ _ s1 fun b _ o e => mk4 b o e, D2.frame _ _ _ s2 fun b _ o e => mk4 b o e, .inl ⟨rfl, mk4 _ _ hz, mk4 _ _ hTO⟩⟩
end
end Rz
namespace L2
open PySem PySem.Spec PyProof.Rows
/-- pairs laid one behind another -/
def putP : Hp → List Addr → List (V × V) → Hp
  | H, a :: as, p :: r => putP (upd H a (.tup [p.1, p.2])) as r
  | H, [], _ => H
  | H, _ :: _, [] => H
theorem putP_off {b : Addr} : ∀ (as : List Addr) (ps : List (V × V)) (H : Hp), b ∉ as → putP H as ps b = H b
  | [], _, _, _ => rfl
  | _ :: _, [], _, _ => rfl
  | a :: as, p :: r, H, h => by
    have h1 : b ≠ a := fun e => h (e ▸ List.mem_cons_self)
    have h2 : b ∉ as := fun e => h (List.mem_cons_of_mem _ e)
    exact (putP_off as r _ h2).trans (upd_ne h1)
theorem putP_at : ∀ (as : List Addr) (ps : List (V × V)) (H : Hp), as.Nodup → ∀ (j : Nat) (a : Addr) (p : V × V), as[j]? = some a → ps[j]? = some p → putP H as ps a = some (.tup [p.1, p.2])
  | [], _, _, _, _, _, _, e, _ => by simp at e
  | _ :: _, [], _, _, _, _, _, _, e => by simp at e
  | b :: as, q :: r, H, nd, 0, a, p, e1, e2 => by
    have e3 : b = a := by simpa using e1
    have e4 : q = p := by simpa using e2
    subst e3 e4
    exact (putP_off as r _ (List.nodup_cons.mp nd).1).trans upd_same
  | b :: as, q :: r, H, nd, j + 1, a, p, e1, e2 => putP_at as r _ (List.nodup_cons.mp nd).2 j a p (by simpa using e1) (by simpa using e2)
/-- list(zip(text, list)), both of one length: the new list at L, its pairs at as -/
def rZipS (K : PySem.W.Frag) : List V → Hp → VK → Prop := fun vs H Q => ∃ (x : Str) (b : Addr) (ys : List V), vs = [.str x, .ref b] ∧ SqL K H b ys ∧ x.cps.size = ys.length ∧
  ∀ (L : Addr) (as : List Addr) (H' : Hp), (∀ c o, H c = some o → H' c = some o) → H L = none → (∀ a ∈ as, H a = none) → L ∉ as → as.length = ys.length → H' L = some (.lst (as.map V.ref)) →
    (∀ (j : Nat) (a : Addr) (c : Nat) (y : V), as[j]? = some a → x.cps[j]? = some c → ys[j]? = some y → H' a = some (.tup [.str ⟨#[c]⟩, y])) → Q (.ref L) H'
def tZipS (K : PySem.W.Frag) (ta : TA) : TE := fun σ H Q => ta σ H fun vs H1 => rZipS K vs H1 Q
theorem vals_ix : ∀ {vs : List V} {us : List Value}, Vals vs us → ∀ {j : Nat} {u : Value}, us[j]? = some u → ∃ v, vs[j]? = some v ∧ RelV v u
  | _, _, .nil, _, _, e => by simp at e
  | _, _, .cons r _, 0, _, e => ⟨_, rfl, by have := Option.some.inj e; subst this; exact r⟩
  | _, _, .cons _ t, j + 1, _, e => vals_ix t (by simpa using e)
theorem refs_rel : ∀ as : List Addr, Vals (as.map V.ref) (as.map Value.ref)
  | [] => .nil
  | _ :: as => .cons rfl (refs_rel as)
section
variable {X : Cx} {e e2 : Expr} {ta : TA} {p q pos pos2 : Pos}
theorem pe_zipS (hc : X.calm = true) (hg : Gl X "list") (hm : X.mg "list" = none) (hgz : Gl X "zip") (hmz : X.mg "zip" = none) (ha : PA X [e, e2] ta)
    (na : starEach [.Call (.Name "zip" q) [e, e2] [] pos2] X.env = (false, eval (.Call (.Name "zip" q) [e, e2] [] pos2) X.env) :: starEach [] X.env := by rfl)
    (hs : starEach [e, e2] X.env = (false, eval e X.env) :: starEach [e2] X.env := by rfl) (hp : (backTo pos2 (starEach [e2] X.env)).any (·.1) = false := by rfl) :
    PE X (.Call (.Name "list" p) [.Call (.Name "zip" q) [e, e2] [] pos2] [] pos) (tZipS X.K ta) := by
  refine ⟨fun pins s σ H Q I h => ?_⟩
  refine Call_ (ld_blt I hg hm boot_list (PyProof.Rows.callWith_type1 (args_cons ?_ na) na))
  refine Call_ (ld_blt I hgz hmz PyProof.Rows.boot_zip (PyProof.Rows.callWith_type1 (thn (ha.run pos2 pins s σ H _ I h) fun us s1 ⟨vs, H1, I1, r1, q1⟩ => ?_) hs hp))
  obtain ⟨x, b, ys, ex, hb, hlen, fin⟩ := q1
  subst ex
  obtain ⟨u1, u2, rfl, ru, rb⟩ := vals2 r1
  obtain ⟨t, rfl⟩ := ru
  cases rb
  obtain ⟨its, rv, pl, hle⟩ := I1.list hb
  have lb : b < s1.heap.objs.size := pl.lt
  have vl : ys.length = its.length := rv.length
  refine zip_begins2 (begins_text x t) (begins_list b its.toArray) trivial pl.isList fun h1 hz hTI hTO g1 g2 hsz hk => args_nil ?_
  have hh : X.A.handled = none := I1.ok.hd hc
  have D1 := Draws.text (prog := X.prog) (w := X.w) (A := X.A.in1.in1.in1) hh s1.heap.objs.size x t
  have hbi : b ≠ s1.heap.objs.size + 1 := Nat.ne_of_lt (Nat.lt_succ_of_lt lb)
  have D2 := Draws.list (prog := X.prog) (w := X.w) (A := X.A.in1.in1.in1) hh (s1.heap.objs.size + 1) b hbi its.toArray
  have S := zip_sep2 (N := s1.heap.objs.size) (fp1 := []) (fp2 := [b]) (fun _ m => (nomatch m)) (fun c m => by rw [List.mem_singleton.mp m]; exact lb)
  have en : its.toArray.size = x.cps.size := by rw [List.size_toArray, ← vl, hlen]
  rw [en] at D2
  refine Rz.z_list (s := { s1 with heap := h1 }) (A := X.A) S D1 D2 ?_ (by omega) hz hTI hTO ⟨_, g1, rfl, rfl⟩ ⟨⟨_, g2, rfl, rfl⟩, (pl.isList).at fun o e => hk b o e⟩ fun h' tk acc c as kp hL hal told hacc => ?_
  · intro c m
    show c < h1.objs.size
    rw [hsz]
    rcases m with m | m
    · rw [List.mem_singleton.mp m]; exact Nat.lt_add_of_pos_right (by decide)
    · rcases List.mem_cons.mp m with m | m
      · rw [m]; exact Nat.add_lt_add_left (by decide) _
      · rw [List.mem_singleton.mp m]; exact Nat.lt_of_lt_of_le lb (Nat.le_add_right _ _)
  · dsimp only at kp hL told ⊢
    have lN : s1.heap.objs.size ≤ h1.objs.size := by rw [hsz]; exact Nat.le_add_right _ _
    have old : ∀ d o, s1.heap.get? d = some o → h'.get? d = some o := fun d o e => by
      have ld : d < s1.heap.objs.size := Heap.lt_size e
      exact kp d o (Nat.ne_of_lt (Nat.lt_of_lt_of_le ld (Nat.le_add_right _ _))) (Nat.ne_of_lt (Nat.lt_of_lt_of_le ld (Nat.le_add_right _ _))) (Nat.ne_of_lt ld) (Nat.ne_of_lt (Nat.lt_succ_of_lt ld)) (hk d o e)
    have nd : as.Nodup := told.rise.imp fun {a b} (h : a < b) => Nat.ne_of_lt h
    have ge : ∀ a ∈ as, s1.heap.objs.size ≤ a := fun a m => Nat.le_trans lN (Nat.le_of_lt (told.above a m))
    have new : ∀ a ∈ as, H1 a = none := fun a m => I1.hok.fresh (ge a m)
    have newL : H1 h1.objs.size = none := I1.hok.fresh lN
    have Las : h1.objs.size ∉ as := fun m => Nat.lt_irrefl _ (told.above _ m)
    have lo : ∀ d, d < s1.heap.objs.size → d ∉ as ∧ d ≠ h1.objs.size := fun d ld => ⟨fun m => absurd ld (Nat.not_lt.mpr (ge d m)), Nat.ne_of_lt (Nat.lt_of_lt_of_le ld lN)⟩
    let ps : List (V × V) := (x.cps.toList.map fun c => V.str ⟨#[c]⟩).zip ys
    have pget : ∀ (j : Nat) (c : Nat) (y : V), x.cps[j]? = some c → ys[j]? = some y → ps[j]? = some (.str ⟨#[c]⟩, y) := fun j c y e1 e2 => by
      have e3 : (x.cps.toList.map fun c => V.str ⟨#[c]⟩)[j]? = some (.str ⟨#[c]⟩) := by rw [List.getElem?_map, Array.getElem?_toList, e1]; rfl
      exact List.getElem?_zip_eq_some.mpr ⟨e3, e2⟩
    let H2 : Hp := putP (upd H1 h1.objs.size (.lst (as.map V.ref))) as ps
    have H2L : H2 h1.objs.size = some (.lst (as.map V.ref)) := (putP_off as ps _ Las).trans upd_same
    have H2off : ∀ d, d ∉ as → d ≠ h1.objs.size → H2 d = H1 d := fun d m n => (putP_off as ps _ m).trans (upd_ne n)
    have H2k : ∀ d o, H1 d = some o → H2 d = some o := fun d o e => by
      rw [H2off d (fun m => by rw [new d m] at e; cases e) (fun m => by rw [m, newL] at e; cases e)]
      exact e
    have H2a : ∀ (j : Nat) (a : Addr) (c : Nat) (y : V), as[j]? = some a → x.cps[j]? = some c → ys[j]? = some y → H2 a = some (.tup [.str ⟨#[c]⟩, y]) := fun j a c y e1 e2 e3 => putP_at as ps _ nd j a _ e1 (pget j c y e2 e3)
    refine ⟨.ref h1.objs.size, H2, ?_, rfl, fin _ as H2 H2k newL new Las (by rw [hal, hlen]) H2L H2a⟩
    refine I1.call' (ch := []) rfl ⟨fun d o u _ _ _ => old d o u, fun d o u _ _ _ => ⟨o.slots, old d o u⟩, fun d o u n _ => ?_, fun d o u _ => ⟨o, old d o u⟩, fun d _ u => H2k d _ u, fun d _ _ u => H2k d _ u, fun d _ u => ⟨#[], by rw [H2k d _ u]; simp⟩⟩ (fun d o u => ?_) I1.bare fun d m => (nomatch m)
    · obtain ⟨n1, n2⟩ := lo d (Heap.lt_size u)
      rw [H2off d n1 n2]; exact n
    · by_cases m : d ∈ as
      · obtain ⟨j, ej⟩ := List.mem_iff_getElem?.mp m
        obtain ⟨v1, v2, p1, p2, tup⟩ := told.two j d ej
        obtain ⟨c, tk2, ec, rfl⟩ := p1
        have p2' : its[j]? = some v2 := by simpa using p2
        obtain ⟨y, ey, ry⟩ := vals_ix rv p2'
        rw [H2a j d c y ej ec ey] at u
        cases u
        exact ⟨by show 2 ≤ sizeLine; decide, [.str ⟨#[c]⟩ tk2, v2], .cons ⟨_, rfl⟩ (.cons ry .nil), ⟨_, tup, rfl, _, rfl⟩⟩
      · by_cases m2 : d = h1.objs.size
        · rw [m2] at u ⊢
          rw [H2L] at u
          cases u
          refine ⟨by rw [List.length_map]; omega, acc.toList, c, by rw [hacc]; exact refs_rel as, ?_⟩
          rw [Array.toArray_toList]
          exact hL
        · rw [H2off d m m2] at u
          exact (I1.hok d o u).stay (fun d' v _ y => old d' v y) (fun d' y => H2k d' _ y) fun d' zs y => H2k d' _ y
end
end L2

/-! Built-ins over instances of own classes: len, abs, list. -/
namespace L2
open PySem PySem.Spec PyProof.Rows
section
variable {X : Cx} {CX CX2 : CXT} {k k2 : Nat} {f f2 C a dx : Addr} {fs : List (Str × V)} {fd fd2 : FuncData} {ps ps2 : List Str} {sp sp2 : Sp} {pins : List (Addr × Obj)} {σ : St} {H : Hp} {s : Shared}
/-- a def of one argument runs within a built-in -/
theorem run_one {A' : Around} {Q : VK} {E : XK} (F : FnOk X.prog X.w X.K X.mg X.base CX k f fd ps sp) (hr : Room k A') (hfr : A'.frames = X.A.frames) (hb : Binds X.K fd ps []) (hx : PassesAt CX X σ E) (I : Inv X pins σ H s) (h : sp [.ref a] H Q E) :
    wpAny (model X.prog X.w) A' (call (.ref f) [.ref a]) (EP X pins σ Q) X.xe s := run_in (vs := [.ref a]) (dvs := []) (ds := []) F hr hfr hb .nil hx I (.cons rfl .nil) (by simpa using h)
/-- len(o) by an own __len__ -/
def rLenO (C : Addr) (sp : Sp) (E : St → XK) (σ : St) : List V → Hp → VK → Prop := fun xs H Q => ∃ a dx fs, xs = [.ref a] ∧ H a = some (.ins C dx fs) ∧ sp [.ref a] H (fun v H' => ∃ n : Int, v = .int n ∧ 0 ≤ n ∧ n < 2 ^ 63 ∧ Q (.int n) H') (E σ)
def tLenO (C : Addr) (sp : Sp) (E : St → XK) (t : TA) : TE := fun σ H Q => t σ H fun vs H1 => rLenO C sp E σ vs H1 Q
theorem len_run {A' : Around} {Q : VK} {E : XK} (m : Meth X.K C "__len__" f) (F : FnOk X.prog X.w X.K X.mg X.base CX k f fd ps sp) (hr : Room (k + 1) A') (hfr : A'.frames = X.A.frames) (hb : Binds X.K fd ps []) (hx : PassesAt CX X σ E) (I : Inv X pins σ H s) (ea : H a = some (.ins C dx fs))
    (h : sp [.ref a] H (fun v H' => ∃ n : Int, v = .int n ∧ 0 ≤ n ∧ n < 2 ^ 63 ∧ Q (.int n) H') E) : wpAny (model X.prog X.w) A' (call (.builtin "len") [.ref a]) (fun u s' => ∃ n t H', u = .int n t ∧ 0 ≤ n ∧ n < 2 ^ 63 ∧ Inv X pins σ H' s' ∧ Q (.int n) H') X.xe s := by
  obtain ⟨od, J⟩ := I.instAt ea
  obtain ⟨m0, hF⟩ := I.fr
  refine PySem.W.len_K hF I.ok.mod.kin J m.at_ m.fn (thn (run_one F hr.in1 hfr hb hx I h) ?_)
  rintro u s2 ⟨x, H2, I2, rx, n, rfl, n0, n1, q⟩
  obtain ⟨t, rfl⟩ := rx
  exact ⟨⟨n0, n1⟩, n, _, H2, rfl, n0, n1, I2.tok _, q⟩
theorem pe_lenO {E : St → XK} {p pos : Pos} {e : Expr} {t : TA} (m : Meth X.K C "__len__" f) (F : FnOk X.prog X.w X.K X.mg X.base CX k f fd ps sp) (hr : Room (k + 1) X.A) (hb : Binds X.K fd ps []) (hx : ∀ σ, PassesAt CX X σ (E σ))
    (hg : Gl X "len") (hm : X.mg "len" = none) (ha : PA X [e] t) (he : starEach [e] X.env = [(false, eval e X.env)] := by rfl) : PE X (.Call (.Name "len" p) [e] [] pos) (tLenO C sp E t) := by
  constructor
  intro pins s σ H Q I h
  refine wpAny_Call_Name_kw (ld_blt I hg hm (by decide +kernel : bootBuiltins "len" = some (.builtin "len")) ?_ (by decide) (by decide))
  refine PyProof.Rows.callWith_builtin1 (thn (ha.run pos pins s σ H _ I h) ?_) he rfl
  rintro us s1 ⟨vs, H1, I1, r1, a, dx, fs, rfl, ea, q⟩
  obtain rfl := Vals.ref1 r1
  refine thn (len_run m F hr rfl hb (hx σ) I1 ea q) ?_
  rintro u s2 ⟨n, t, H2, rfl, _, _, I2, q2⟩
  exact ⟨.int n, H2, I2, ⟨t, rfl⟩, q2⟩
/-- abs(o) by an own __abs__ -/
def tAbsO (C : Addr) (sp : Sp) (E : St → XK) (t : TA) : TE := fun σ H Q => t σ H fun vs H1 => ∃ a dx fs, vs = [.ref a] ∧ H1 a = some (.ins C dx fs) ∧ sp [.ref a] H1 Q (E σ)
theorem pe_absO {E : St → XK} {p pos : Pos} {e : Expr} {t : TA} (m : Meth X.K C "__abs__" f) (F : FnOk X.prog X.w X.K X.mg X.base CX k f fd ps sp) (hr : Room (k + 1) X.A) (hb : Binds X.K fd ps []) (hx : ∀ σ, PassesAt CX X σ (E σ))
    (hg : Gl X "abs") (hm : X.mg "abs" = none) (ha : PA X [e] t) (he : starEach [e] X.env = [(false, eval e X.env)] := by rfl) : PE X (.Call (.Name "abs" p) [e] [] pos) (tAbsO C sp E t) := by
  constructor
  intro pins s σ H Q I h
  refine wpAny_Call_Name_kw (ld_blt I hg hm (by decide +kernel : bootBuiltins "abs" = some (.builtin "abs")) ?_ (by decide) (by decide))
  refine PyProof.Rows.callWith_builtin1 (thn (ha.run pos pins s σ H _ I h) ?_) he rfl
  rintro us s1 ⟨vs, H1, I1, r1, a, dx, fs, rfl, ea, q⟩
  obtain rfl := Vals.ref1 r1
  obtain ⟨od, J⟩ := I1.instAt ea
  refine Calls.call_function_entry PyProof.Rows.kind_abs PyProof.Rows.plain_abs PyProof.Rows.entry_abs (PyProof.Rows.args_abs _) ?_
  unfold Builtin.«abs»
  refine wpAny_bind (m := oneArg "abs" _) (wpAny_pure ?_)
  refine wpAny_bind (m := callSpecial? (.ref a) (Str.ofString "__abs__")) (PySem.W.special_fn I1.kIn J m.at_ (beq_iff_eq.mp m.fn) (thn (run_one F hr.in1 rfl hb (hx σ) I1 q) fun u s2 hq => ?_))
  exact wpAny_pure ⟨_, rfl, hq⟩
/-- the walk of a list's iterator into the new list at q -/
theorem it_loop {A1 : Around} {l it q : Addr} {ys : List V} {R : Result → Shared → Prop} (hh : A1.handled = none) (ne1 : l ≠ it) (ne2 : l ≠ q) (ne3 : it ≠ q) {H0 : Hp}
    (hR : ∀ s H', Inv X pins σ H' s → (∀ b, b ≠ q → b ≠ it → H' b = H0 b) → H' q = some (.lst ys) → R (.ok (.ret .none)) s) :
    ∀ (n i : Nat) (H : Hp) (s : Shared), ys.length - i = n → i ≤ ys.length → Inv X pins σ H s → (∀ b, b ≠ q → b ≠ it → H b = H0 b) → H l = some (.lst ys) → H it = some (ItO l it i) → H q = some (.lst (ys.take i)) →
      codeAny (model X.prog X.w) A1 (.builtin "list.extend.loop" ⟨[.ref q, .ref it, .none], []⟩) R s := by
  intro n
  induction n with
  | zero =>
    intro i H s hn hi I same el ei eq
    have hi' : i = ys.length := by omega
    obtain ⟨its, rv, pl, hz⟩ := I.list (.of el)
    refine codeAny_builtin PySem.F.entry_extend_loop ?_
    rw [Around.under_plainId PySem.F.plain_extend_loop _]
    show wpAny (model X.prog X.w) A1.in1 (pyNext (.ref it) >>= _) _ _ s
    have ty : s.TypeIs (.ref it) "list_iterator" := ⟨_, itO_get I ei, rfl⟩
    refine wpAny_bind ?_
    unfold pyNext
    refine wpAny_bind (wpAny_attempt (wpAny_callSpecial?_slot (name := Str.ofString "__next__") ty slot_listiter_next (wpAny_call_entry slot_listiter_next ty entry_listiter_next ?_ (args_listiter_next _))))
    have nx : ys[i]? = none := List.getElem?_eq_none (by omega)
    refine wpAny_mono (GNX.next_end (Q := fun _ _ => False) (E := fun e s' => ∃ h1 h' e' vs, e = .ref e' ∧ h1.get? it = some (GNX.itEnd i) ∧ Heap.SameBut it s.heap h1 ∧ (∀ b o, h1.get? b = some o → h'.get? b = some o) ∧ h'.get? e' = some { cls := .type "StopIteration", data := .fields vs } ∧ s' = { s with heap := h' }) (A := A1.in1) hh (itO_get I ei) pl.isList (by rw [List.getElem?_toArray]; exact rv.none_of nx) fun h1 h' e vs e1 sb kp ne he hv => ⟨h1, h', e, vs, rfl, e1, sb, kp, he, rfl⟩) ?_ ?_
    · rintro r s' ⟨v, _, z⟩
      exact z.elim
    · rintro e s' ⟨h1, h', e', vs, rfl, e1, sb, kp, he, rfl⟩
      refine wpAny_bind (wpAny_isInstance (T := "StopIteration") (b := true) ⟨_, he, rfl⟩ isSubtype_stop ?_)
      refine wpAny_pure ?_
      refine wpAny_pure ?_
      have mu : Mut (H it) := by rw [ei]; exact True.intro
      have I2 : Inv X pins σ (upd H it (ItE it i)) { s with heap := h1 } := I.write (x := it) (e := it) (t' := s.toks) mu (.inl rfl) (fun b o nb z => (sb.2 b nb).trans z) ⟨_, e1⟩ (itE_ok e1)
      have I3 : Inv X pins σ (upd H it (ItE it i)) { s with heap := h' } := I2.kept (t' := s.toks) kp
      refine hR _ _ I3 (fun b b1 b2 => by rw [upd_ne b2]; exact same b b1 b2) ?_
      rw [upd_ne (Ne.symm ne3), eq, hi', List.take_length]
  | succ n ih =>
    intro i H s hn hi I same el ei eq
    have lt : i < ys.length := by omega
    obtain ⟨its, rv, pl, hz⟩ := I.list (.of el)
    obtain ⟨u, hu, ru⟩ := rv.get (List.getElem?_eq_getElem lt)
    refine codeAny_builtin PySem.F.entry_extend_loop ?_
    rw [Around.under_plainId PySem.F.plain_extend_loop _]
    show wpAny (model X.prog X.w) A1.in1 (pyNext (.ref it) >>= _) _ _ s
    have ty : s.TypeIs (.ref it) "list_iterator" := ⟨_, itO_get I ei, rfl⟩
    refine wpAny_bind ?_
    unfold pyNext
    refine wpAny_bind (wpAny_attempt (wpAny_callSpecial?_slot (name := Str.ofString "__next__") ty slot_listiter_next (wpAny_call_entry slot_listiter_next ty entry_listiter_next ?_ (args_listiter_next _))))
    refine GNX.next_item (itO_get I ei) pl.isList (by rw [List.getElem?_toArray]; exact hu) fun h' e' sb => wpAny_pure ?_
    have mu : Mut (H it) := by rw [ei]; exact True.intro
    have I2 : Inv X pins σ (upd H it (ItO l it (i + 1))) { s with heap := h' } := I.write (x := it) (e := it) (t' := s.toks) mu (.inl rfl) (fun b o nb z => (sb.2 b nb).trans z) ⟨_, e'⟩ (itO_ok e')
    show wpAny (model X.prog X.w) A1.in1 (updateSeq q (·.push u) >>= _) _ _ _
    have eq2 : upd H it (ItO l it (i + 1)) q = some (.lst (ys.take i)) := by rw [upd_ne (Ne.symm ne3)]; exact eq
    obtain ⟨z, us, c, r2, hl, e⟩ := I2.lstM eq2
    refine wpAny_bind (wpAny_updateSeq e rfl (wpAny_pure ⟨plainId_quiet PySem.F.plain_extend_loop _, ?_⟩) (by rw [List.size_toArray]; omega) (by show (us.toArray.push u).size ≤ sizeLine + 1; rw [Array.size_push, List.size_toArray]; omega))
    have tk : ys.take (i + 1) = ys.take i ++ [ys[i]] := (List.take_succ_eq_append_getElem lt)
    have I3 := I2.lset (its' := us ++ [u]) (ys := ys.take (i + 1)) (f := (·.push u)) (t' := s.toks) eq2 e (by simp) (by rw [tk]; exact r2.append (.cons ru .nil)) (by rw [List.length_take]; omega)
    refine ih (i + 1) _ _ (by omega) lt I3 (fun b b1 b2 => by rw [upd_ne b1, upd_ne b2]; exact same b b1 b2) ?_ ?_ upd_same
    · rw [upd_ne ne2, upd_ne ne1]; exact el
    · rw [upd_ne ne3, upd_same]
/-- what lets nothing out -/
def Shut (CX : CXT) : Prop := ∀ outer H s e s', CX outer H s (fun _ _ _ => False) e s' → False
theorem shut_CX {P : Program} {w : World} : Shut (L2.CX P w) := fun _ _ _ _ _ ⟨_, _, _, _, _, _, _, _, _, _, _, _, z⟩ => z
theorem run_shut {A' : Around} {Q : VK} {E1 : Value → Shared → Prop} (F : FnOk X.prog X.w X.K X.mg X.base CX k f fd ps sp) (hr : Room k A') (hfr : A'.frames = X.A.frames) (hb : Binds X.K fd ps []) (hx : Shut CX) (I : Inv X pins σ H s) (h : sp [.ref a] H Q (fun _ _ _ => False)) :
    wpAny (model X.prog X.w) A' (call (.ref f) [.ref a]) (EP X pins σ Q) E1 s := by
  have e0 := I.env0
  have e1 : Env0 X.prog X.w X.K X.mg X.base A' X.stack s H := ⟨hfr.trans e0.frames, e0.mod, e0.bs, e0.bsz, e0.funs, e0.frf, e0.hok, e0.bare⟩
  have rr : Vals [V.ref a] [Value.ref a] := .cons rfl .nil
  refine wpAny_call (codeAny_mono (F.run A' X.stack s H ⟨[.ref a], []⟩ [.ref a] [.ref a] Q _ hr e1 (by simpa using hb s [.ref a] I.kIn (by have := F.len _ _ _ _ h; simpa using this)) rr h) ?_)
  intro res s' hq
  match res, hq with
  | .error e, hq => exact (hx _ _ _ _ _ hq).elim
  | .ok (.ret u), hq => exact I.after hq
  | .ok .next, hq => exact hq.elim
  | .ok .brk, hq => exact hq.elim
  | .ok .cont, hq => exact hq.elim
theorem len_shut {A' : Around} {P : Int → Hp → Prop} {E1 : Value → Shared → Prop} (m : Meth X.K C "__len__" f) (F : FnOk X.prog X.w X.K X.mg X.base CX k f fd ps sp) (hr : Room (k + 1) A') (hfr : A'.frames = X.A.frames) (hb : Binds X.K fd ps []) (hx : Shut CX) (I : Inv X pins σ H s) (ea : H a = some (.ins C dx fs))
    (h : sp [.ref a] H (fun v H' => ∃ n : Int, v = .int n ∧ 0 ≤ n ∧ n < 1000000 ∧ P n H') (fun _ _ _ => False)) : wpAny (model X.prog X.w) A' (call (.builtin "len") [.ref a]) (fun u s' => ∃ n t H', u = .int n t ∧ 0 ≤ n ∧ n < 1000000 ∧ Inv X pins σ H' s' ∧ P n H') E1 s := by
  obtain ⟨od, J⟩ := I.instAt ea
  obtain ⟨m0, hF⟩ := I.fr
  refine PySem.W.len_K hF I.ok.mod.kin J m.at_ m.fn (thn (run_shut F hr.in1 hfr hb hx I h) ?_)
  rintro u s2 ⟨x, H2, I2, rx, n, rfl, n0, n1, q⟩
  obtain ⟨t, rfl⟩ := rx
  exact ⟨⟨n0, by omega⟩, n, _, H2, rfl, n0, n1, I2.tok _, q⟩
/-- list(o): o's __iter__ gives a list's iterator, its __len__ a number -/
def rListO (C : Addr) (spI spL : Sp) (E : St → XK) (σ : St) : List V → Hp → VK → Prop := fun xs H Q => ∃ a dx fs, xs = [.ref a] ∧ H a = some (.ins C dx fs) ∧ ∀ q, H q = none →
  spI [.ref a] (upd H q (.lst [])) (fun v H1 => ∃ l it ys dx1 fs1, v = .ref it ∧ H1 a = some (.ins C dx1 fs1) ∧ H1 it = some (ItO l it 0) ∧
    spL [.ref a] H1 (fun m H2 => ∃ i : Int, m = .int i ∧ 0 ≤ i ∧ i < 1000000 ∧ H2 l = some (.lst ys) ∧ H2 it = some (ItO l it 0) ∧ H2 q = some (.lst []) ∧ l ≠ q ∧
      ∀ H', (∀ b, b ≠ q → b ≠ it → H' b = H2 b) → H' q = some (.lst ys) → Q (.ref q) H') (fun _ _ _ => False)) (E σ)
def tListO (C : Addr) (spI spL : Sp) (E : St → XK) (t : TA) : TE := fun σ H Q => t σ H fun vs H1 => rListO C spI spL E σ vs H1 Q
theorem pe_listO {E : St → XK} {p pos : Pos} {e : Expr} {t : TA} (mi : Meth X.K C "__iter__" f) (ml : Meth X.K C "__len__" f2) (FI : FnOk X.prog X.w X.K X.mg X.base CX k f fd ps sp) (FL : FnOk X.prog X.w X.K X.mg X.base CX2 k2 f2 fd2 ps2 sp2) (hr : Room (k + 2) X.A) (hr2 : Room (k2 + 3) X.A) (hb : Binds X.K fd ps []) (hb2 : Binds X.K fd2 ps2 [])
    (hx : ∀ σ, PassesAt CX X σ (E σ)) (hx2 : Shut CX2) (hc : X.calm = true) (hg : Gl X "list") (hm : X.mg "list" = none) (ha : PA X [e] t) (he : starEach [e] X.env = [(false, eval e X.env)] := by rfl) : PE X (.Call (.Name "list" p) [e] [] pos) (tListO C sp sp2 E t) := by
  constructor
  intro pins s σ H Q I h
  refine wpAny_Call_Name_kw (ld_blt I hg hm boot_list ?_ (by decide) (by decide))
  refine PyProof.Rows.callWith_type1 (thn (ha.run pos pins s σ H _ I h) ?_) he rfl
  rintro us s1 ⟨vs, H1, I1, r1, a, dx, fs, rfl, ea, fin⟩
  obtain rfl := Vals.ref1 r1
  have hh : X.A.handled = none := I1.ok.hd hc
  refine callType_codes (Q₁ := fun obj t => obj = .ref s1.heap.objs.size ∧ t = { s1 with heap := s1.heap.push { cls := .type "list", data := .seq #[] } }) PySem.F.called_list (PySem.F.typeCall_list_1 _) PySem.F.entry_list_init
    (code_list_new _ ⟨rfl, rfl⟩) fun obj t ht => ?_
  obtain ⟨rfl, rfl⟩ := ht
  have hL : (s1.heap.push { cls := .type "list", data := .seq #[] }).get? s1.heap.objs.size = some { cls := .type "list", data := .seq #[] } := Heap.get?_push_size _ rfl
  refine ⟨⟨_, hL, rfl⟩, PySem.F.args_list_init_2 _ _, ?_⟩
  have fr : H1 s1.heap.objs.size = none := I1.hok.fresh (Nat.le_refl _)
  have q0 := fin _ fr
  have I2 : Inv X pins σ (upd H1 s1.heap.objs.size (.lst [])) { s1 with heap := s1.heap.push { cls := .type "list", data := .seq #[] } } := I1.lnew (its := []) (t' := s1.toks) .nil (Nat.zero_le _)
  have ea2 : upd H1 s1.heap.objs.size (.lst []) a = some (.ins C dx fs) := by rw [upd_ne (ne_of_none ea fr)]; exact ea
  have aL : s1.heap.objs.size ≠ a := (ne_of_none ea fr).symm
  generalize s1.heap.objs.size = L at *
  show wpAny (model X.prog X.w) X.A.in1.in1 (do let old ← Builtin.List.listItems (.ref L); Builtin.List.listUpdate (.ref L) (fun _ => #[]); letGo old.toList.reverse; Builtin.List.listExtendWith (.ref L) (.ref a) .none) _ _ _
  refine wpAny_bind ?_
  unfold Builtin.List.listItems
  refine wpAny_bind (wpAny_seqItems hL rfl (wpAny_pure ?_))
  show wpAny (model X.prog X.w) X.A.in1.in1 (updateSeq L (fun _ => #[]) >>= fun _ => letGo (#[] : Array Value).toList.reverse >>= fun _ => Builtin.List.listExtendWith (.ref L) (.ref a) .none) _ _ _
  refine wpAny_bind (wpAny_updateSeq hL rfl ?_)
  have I3 := I2.lset (f := fun _ => #[]) (its := []) (its' := []) (ys := []) (t' := s1.toks) upd_same hL rfl .nil (Nat.zero_le _)
  rw [upd_upd] at I3
  refine wpAny_bind (wpAny_letGo ?_)
  obtain ⟨od, J⟩ := I3.instAt ea2
  obtain ⟨m0, hF⟩ := I3.fr
  unfold Builtin.List.listExtendWith
  refine wpAny_bind (J.type.here ?_)
  have r1 : Builtin.List.listSameRef (.ref L) (.ref a) = false := by simp [Builtin.List.listSameRef, aL]
  have r2 : (Value.ref C == Value.type "list") = false := rfl
  have r3 : (Value.ref C == Value.type "tuple") = false := rfl
  simp only [r1, r2, r3, Bool.or_false, Bool.false_eq_true, if_false]
  refine wpAny_bind (PySem.W.owit_iter hF I3.ok.mod.kin J mi.at_ mi.fn ?_)

  refine thn (run_one (E := E σ) FI hr.in1.in1 rfl hb (hx σ) I3 q0) ?_
  rintro u s4 ⟨v, H4, I4, rv, l, it, ys, dx1, fs1, rfl, ea4, eit, q4⟩
  cases rv
  unfold PySem.W.OwitIt
  have ty4 : s4.TypeIs (.ref it) "list_iterator" := ⟨_, itO_get I4 eit, rfl⟩
  refine wpAny_specialOf ty4 slot_listiter_next.lookup ?_
  dsimp only
  obtain ⟨od4, J4⟩ := I4.instAt ea4
  refine wpAny_bind (wpAny_holding ?_)
  unfold Builtin.List.listLengthHint
  refine wpAny_bind (wpAny_bind (J4.type.here ((PySem.W.looks_findIn I4.kIn ml.at_).here ?_)))
  refine PySem.W.KFB.if_not rfl ?_
  refine wpAny_ite_split (fun _ => ?_) (fun z => absurd rfl z)
  refine wpAny_bind (wpAny_rule ?_)
  refine wpAny_bind (wpAny_attempt (wpAny_mono (len_shut (E1 := fun _ _ => False) ml FL hr2.in1.in1 rfl hb2 hx2 I4 ea4 q4) ?_ fun _ _ z => z.elim))
  · rintro u s5 ⟨n, t, H5, rfl, n0, n1, I5, el, eit5, eL, nlL, q5⟩
    refine wpAny_bind (m := asInt? (.int n t)) (wpAny_pure ?_)
    dsimp only
    have small : Builtin.List.listTooLong n.toNat = false := notLongL (by rw [sizeLine_eq]; omega)
    rw [small]
    simp only [Bool.false_eq_true, if_false]
    refine wpAny_pure ?_
    obtain ⟨z, its, c, r3, hl3, e3⟩ := I5.lstM eL
    cases r3
    have n1 : l ≠ it := ne_of el eit5 (fun z => nomatch z)
    have n3 : it ≠ L := ne_of eit5 eL (fun z => nomatch z)
    have go : ∀ s' H', Inv X pins σ H' s' → H' = H5 → codeAny (model X.prog X.w) X.A.in1 (.builtin "list.extend.loop" ⟨[.ref L, .ref it, .none], []⟩) (wants (fun r s₂ => r = .none ∧ EP X pins σ Q (.ref L) s₂) X.xe) s' := fun s' H' I' eH => by
      subst eH
      exact it_loop (A1 := X.A.in1) (R := wants (fun r s₂ => r = .none ∧ EP X pins σ Q (.ref L) s₂) X.xe) (H0 := H') hh n1 nlL n3 (fun s'' H'' I'' same eq => ⟨rfl, .ref L, H'', I'', rfl, q5 H'' same eq⟩) ys.length 0 H' s' (Nat.sub_zero _) (Nat.zero_le _) I' (fun _ _ _ => rfl) el eit5 eL
    refine wpAny_ite_split (fun _ => ?_) (fun _ => wpAny_pure ⟨plainId_quiet PySem.F.plain_extend_loop _, go _ _ I5 rfl⟩)
    refine wpAny_bind (wpAny_rule (wpAny_bind ?_))
    show wpAny (model X.prog X.w) X.A.in1.in1 (updateSeq L (·.push .none) >>= fun _ => updateSeq L (·.pop)) _ _ _
    refine wpAny_bind (wpAny_updateSeq e3 rfl ?_)
    have I6 := I5.lset (f := (·.push Value.none)) (its' := [Value.none]) (ys := [.non]) (t' := s5.toks) eL e3 (by simp) (.cons rfl .nil) (by rw [List.length_singleton, sizeLine_eq]; decide)
    obtain ⟨z4, its4, c4, r4, hl4, e4⟩ := I6.lstM upd_same
    obtain ⟨u4, rfl, ru4⟩ := r4.one
    refine wpAny_updateSeq e4 rfl ?_ (by show 1 ≤ sizeLine; rw [sizeLine_eq]; decide) (by show 0 ≤ sizeLine + 1; exact Nat.zero_le _)
    have I7 := I6.lset (f := (·.pop)) (its := [u4]) (its' := []) (ys := []) (t' := s5.toks) upd_same e4 (by rfl) .nil (Nat.zero_le _)
    rw [upd_upd] at I7
    refine wpAny_pure ⟨plainId_quiet PySem.F.plain_extend_loop _, go _ _ I7 ?_⟩
    funext b
    by_cases hb : b = L
    · rw [hb, upd_same, eL]
    · rw [upd_ne hb]
end
end L2

/-! Facts for isinstance; code that is not reached; some more built-ins. -/
namespace Rz
open PySem PySem.Spec PyProof.Rows L2 He
def tyB (C : Str) : Fg → Bool := fun K => (Fa.cls C).ok K && (eqO (PySem.W.findIn K (.ref (ga K C)) "__class__") (some (some (.builtin "object.__class__"))) && (eqO (PySem.W.specialIn K (.builtin "object.__class__") "__get__") (some (some (.builtin "getset_descriptor.__get__"))) &&
  (decide (PySem.W.takesIn K (.builtin "object.__class__") = some true) && decide (PySem.W.mroIn K (ga K C) (.type "object") = some true))))
theorem tyB_ok {C : Str} {K : Fg} (h : tyB C K = true) : C8.InsC K (ga K C) := by
  obtain ⟨h0, h⟩ := ba h
  obtain ⟨h1, h⟩ := ba h
  obtain ⟨h2, h⟩ := ba h
  obtain ⟨h3, h4⟩ := ba h
  exact ⟨cls_ok h0, eqO_ok h1, eqO_ok h2, of_decide_eq_true h3, of_decide_eq_true h4, by unfold PySem.W.kitOne; simp⟩
/-- isinstance of an instance of C (a value of the built-in type T), asked for the built-in type U (the class D) -/
def kitCT (C : Str) (U : String) (r : Bool) : Fg → Bool := fun K => decide (PySem.W.kitOne K (.ref (ga K C)) (.type U) = some r)
def kitTC (T : String) (D : Str) (r : Bool) : Fg → Bool := fun K => decide (PySem.W.kitOne K (.type T) (.ref (ga K D)) = some r)
def kitCC (C D : Str) (r : Bool) : Fg → Bool := fun K => decide (PySem.W.kitOne K (.ref (ga K C)) (.ref (ga K D)) = some r)
theorem tyX_own {K : Fg} {C a dx : Addr} {fs : List (Str × V)} {H : Hp} (c : C8.InsC K C) (ea : H a = some (.ins C dx fs)) : TyX K H (.ref a) (.ref C) := .base (.ins ea c.cl c.ha c.hn c.htk c.hm)
end Rz
namespace L2
open PySem PySem.Spec PyProof.Rows
section
variable {X : Cx}
/-- what is never reached -/
def tDeadE : TE := fun _ _ _ => False
def tDead : TS := fun _ _ _ => False
theorem pe_dead {e : Expr} : PE X e tDeadE := ⟨fun _ _ _ _ _ _ z => z.elim⟩
theorem ps_dead {st : Stmt} : PS X st tDead := ⟨fun _ _ _ _ _ _ z => z.elim⟩
theorem pss_dead {st : List Stmt} : PSs X st tDead := ⟨fun _ _ _ _ _ _ z => z.elim⟩
def rMaxA (K : Frg) : List V → Hp → VK → Prop := rMax K
def rMinA (K : Frg) : List V → Hp → VK → Prop := rMin K
theorem c_max (hc : X.calm = true) : CallR X (.builtin "max") (rMaxA X.K) := cr_max hc
theorem c_min (hc : X.calm = true) : CallR X (.builtin "min") (rMinA X.K) := cr_min hc
def rAnyA (K : Frg) : List V → Hp → VK → Prop := rAny K
theorem c_any (hc : X.calm = true) : CallR X (.builtin "any") (rAnyA X.K) := cr_any hc
def rIterA (K : Frg) : List V → Hp → VK → Prop := rIter K
theorem c_iter : CallR X (.builtin "iter") (rIterA X.K) := call_iterL
def rInsertA : V → List V → Hp → VK → Prop := fun x vs H Q => ∃ (l : Addr) (xs : List V) (i : Int) (y : V), x = .ref l ∧ vs = [.int i, y] ∧ H l = some (.lst xs) ∧ xs.length < sizeLine ∧ 0 ≤ i ∧ i < 2 ^ 63 ∧ Q .non (upd H l (.lst (xs.take i.toNat ++ [y] ++ xs.drop i.toNat)))
theorem mt_insertA : MtR X "list.insert" rInsertA := mt_insert
end
end L2

/-! Operators, subscripts and slices over instances of the program's own classes. -/
namespace PySem.W
open PySem PySem.Calls PyProof.Rows Builtin
section
variable {prog : Program} {w : World} {A : Around} {E : Value → Shared → Prop} {s : Shared} {K : Frag} {x C L f : Addr} {h₀ : Heap} {m : Str → Option Value} {ox : Obj} {od : Option Obj}
theorem notImpl_of_CmpBack {Q : Value → Shared → Prop} {v : Value} {s' : Shared} (hv : v ≠ .notImplemented) (h : Q v s') : CmpBack Q v s' := by
  cases v <;> first | exact absurd rfl hv | exact h
/-- o[i:j] -/
theorem sub_KS {value : Expr} {lo hi : Option Expr} {p : Pos} {i : Value} {Q : Value → Shared → Prop} (F : Fr h₀ L s.heap m) (X₀ : K.In h₀) (I : InstAt s.heap x ox C od) (hs : findIn K (.ref C) "__getitem__" = some (some (.ref f))) (hf : fnIn K f = true) (hfn : isFn K (.ref f) = true) (hq : noSeq K C = true)
    (h : wpAny (model prog w) A (call (.ref f) [.ref x, i]) Q E s) :
    wpAny (model prog w) A (subscriptTail value (.Slice lo hi none p) (.ref x) i) Q E s := by
  have X := X₀.keeps F.keep
  unfold fnIn at hf
  split at hf
  · rename_i e
    unfold subscriptTail getitemInPython
    refine wpAny_bind (wpAny_bind (wpAny_bind (I.type.here ((looks_findIn X hs).here ?_))))
    dsimp only
    refine wpAny_bind (wpAny_load (X _ _ e) (wpAny_pure ?_))
    dsimp only
    show wpAny (model prog w) A (operate [i, .ref x] (getItem (.ref x) i) >>= _) Q E s
    refine wpAny_bind (wpAny_operate' (getItem_K F X₀ I hq hs hfn (wpAny_mono h (fun v s' z => ?_) fun _ _ z => z)))
    show wpAny (model prog w) A (letTemporaryGo value (.ref x) v >>= fun _ => pure v) Q E s'
    exact wpAny_bind (wpAny_letTemporaryGo (wpAny_pure z))
  · cases hf
/-- i * o of an int and an instance by its own __rmul__ -/
theorem rmul_K {i : Int} {t : Tok} {Q : Value → Shared → Prop} (np : ∀ v, ox.data ≠ .prim v) (F : Fr h₀ L s.heap m) (X₀ : K.In h₀) (I : InstAt s.heap x ox C od) (hc : selfFirst K C = true)
    (hs : findIn K (.ref C) "__rmul__" = some (some (.ref f))) (hl : findIn K (.ref C) "__mul__" = some none) (hf : isFn K (.ref f) = true)
    (hsub : subIn K (.ref C) (.type "int") = some false)
    (h : wpAny (model prog w) A (call (.ref f) [.ref x, .int i t]) (CmpBack Q) E s) : wpAny (model prog w) A (binaryOp .Mult (.int i t) (.ref x)) Q E s := by
  have X := X₀.keeps F.keep
  obtain ⟨cd, rest, hcd, hm⟩ := ksp_first hc
  have one := ksp_try (A := A) X I hs hf h
  obtain ⟨hh, g, d, tt, os⟩ := s
  have L1 : Looks (model prog w) hh (typeOf (.ref x)) (.ref C) := I.type
  have L3 : Looks (model prog w) hh (fillsNumberSlot (.ref C) "mul") true := by
    intro A Q E s k q
    have Xs := X.keeps k
    unfold fillsNumberSlot
    refine wpAny_bind ((looks_clsIn X hcd).andThen (f := fun cd => pure cd.mro) .now A _ E s k ?_)
    rw [hm, List.anyM_cons]
    refine wpAny_bind ?_
    show wpAny _ A (List.anyM _ [PySem.dunder "mul", dunderR "mul"]) _ _ _
    rw [List.anyM_cons]
    refine wpAny_bind (wpAny_bind (looks_findIn X (show findIn K (.ref C) (PySem.dunder "mul") = some none from hl) A _ E s k ?_))
    dsimp only
    refine wpAny_pure ?_
    simp only [Bool.false_eq_true, if_false]
    rw [List.anyM_cons]
    refine wpAny_bind (wpAny_bind (looks_findIn X (show findIn K (.ref C) (dunderR "mul") = some (some (.ref f)) from hs) A _ E s k ?_))
    dsimp only
    rw [if_pos (show (!ownNameWrapper (.ref f) (dunderR "mul")) = true from rfl)]
    refine wpAny_pure ?_
    rw [if_pos rfl]
    refine wpAny_pure ?_
    rw [if_pos rfl]
    exact wpAny_pure q
  have L2 : Looks (model prog w) hh (typeOf (.int i t)) (.type "int") := Looks.of_pure rfl
  have L4 : Looks (model prog w) hh (fillsNumberSlot (.type "int") "mul") true := Looks.of_pure PySem.F.fills_int_mul
  have L5 : Looks (model prog w) hh (isSubtype (.ref C) (.type "int")) false := looks_subIn X hsub
  have L6 : Looks (model prog w) hh (numberSlotInPython (.type "int") "mul") false := Looks.of_pure rfl
  have hne : (Value.type "int" == Value.ref C) = false := Bool.eq_false_iff.mpr fun q => by cases beq_iff_eq.mp q
  simp only [binaryOp, Operator.info]
  refine wpAny_holding (wpAny_bind ?_)
  unfold binaryOp1
  refine wpAny_bind (L2.at (wpAny_bind (L1.at (wpAny_bind (L4.at ?_)))))
  simp only [hne, Bool.false_eq_true, if_false]
  refine wpAny_bind (L3.at ?_)
  simp only [Bool.and_self, if_true]
  refine wpAny_bind (L5.at ?_)
  simp only [Bool.false_eq_true, if_false]
  refine wpAny_bind (L6.at ?_)
  simp only [Bool.false_eq_true, if_false]
  refine wpAny_bind (wpAny_mono (Q := fun r s' => r = none ∧ s' = ⟨hh, g, d, tt, os⟩) ?one ?two fun _ _ e => e)
  case one =>
    unfold tryMethod
    refine wpAny_bind (wpAny_callSpecial?_slot (s := ⟨hh, g, d, tt, os⟩) (typeIs_int _ i t) PySem.F.slot_int_mul (wpAny_call_entry PySem.F.slot_int_mul (typeIs_int _ i t) PySem.F.entry_int_mul ?_ (PySem.F.args_int_mul_2 _ _)))
    have e : (⟨hh, g, d, tt, os⟩ : Shared).heap.get? x = some ox := I.at_
    have fin : wpAny (model prog w) A.in1 (asInt? (.ref x)) (fun r s' => r = none ∧ s' = ⟨hh, g, d, tt, os⟩) E ⟨hh, g, d, tt, os⟩ := by
      unfold asInt?
      refine wpAny_bind (wpAny_load e ?_)
      cases q : ox.data with
      | prim v => exact absurd q (np v)
      | _ => exact wpAny_pure ⟨rfl, rfl⟩
    show wpAny (model prog w) A.in1 (asInt? (.ref x) >>= _) _ _ _
    refine wpAny_bind (wpAny_mono fin ?_ fun _ _ z => z)
    rintro r s' ⟨rfl, rfl⟩
    refine wpAny_bind (wpAny_rule ?_)
    exact wpAny_pure ⟨_, rfl, wpAny_pure ⟨rfl, rfl⟩⟩
  case two =>
    rintro r s' ⟨rfl, rfl⟩
    ksp_lk
    refine wpAny_mono one (fun r s' hr' => ?_) fun _ _ e => e
    obtain ⟨v, rfl, hq⟩ := hr'
    ksp_lk
    exact hq
end
end PySem.W
namespace L2
open PySem PySem.Spec PyProof.Rows
/-- a slice object with two ints -/
def Sli (a : Addr) (i j : Int) : HO := .ext fun h => ∃ t u, h.get? a = some { cls := .type "slice", data := .fields #[.int i t, .int j u, .none] }
/-- what a class has for its operators -/
structure OpC (K : PySem.W.Frag) (C : Addr) : Prop where
  first : PySem.W.selfFirst K C = true
  noseq : PySem.W.noSeq K C = true
section
variable {X : Cx} {CX : CXT} {k : Nat} {f C a dx : Addr} {fs : List (Str × V)} {fd : FuncData} {ps : List Str} {sp : Sp} {pins : List (Addr × Obj)} {σ : St} {H : Hp} {s : Shared} {pos : Pos} {e1 e2 e3 : Expr} {t1 t2 t3 : TE}
theorem rel_ni {x : V} {v : Value} (r : RelV x v) : v ≠ .notImplemented := by
  cases x with
  | non => intro e; rw [show v = Value.none from r] at e; cases e
  | bl b => intro e; rw [show v = Value.bool b from r] at e; cases e
  | int i => obtain ⟨t, rfl⟩ := r; intro e; cases e
  | str i => obtain ⟨t, rfl⟩ := r; intro e; cases e
  | byt i => obtain ⟨t, rfl⟩ := r; intro e; cases e
  | flt i => obtain ⟨t, rfl⟩ := r; intro e; cases e
  | ref i => intro e; rw [show v = Value.ref i from r] at e; cases e
  | ty i => intro e; rw [show v = Value.type i from r] at e; cases e
theorem EP.back {Q : VK} {v : Value} {s' : Shared} (h : EP X pins σ Q v s') : PySem.W.CmpBack (EP X pins σ Q) v s' := by
  obtain ⟨x, H', I, r, q⟩ := h
  exact PySem.W.notImpl_of_CmpBack (rel_ni r) ⟨x, H', I, r, q⟩
/-- a def of two arguments runs within an operator -/
theorem run_two {A' : Around} {Q : VK} {E : XK} {y : V} {u : Value} (F : FnOk X.prog X.w X.K X.mg X.base CX k f fd ps sp) (hr : Room k A') (hfr : A'.frames = X.A.frames) (hb : Binds X.K fd ps []) (hx : PassesAt CX X σ E) (I : Inv X pins σ H s) (ry : RelV y u) (h : sp [.ref a, y] H Q E) :
    wpAny (model X.prog X.w) A' (call (.ref f) [.ref a, u]) (EP X pins σ Q) X.xe s := run_in (vs := [.ref a, y]) (dvs := []) (ds := []) F hr hfr hb .nil hx I (.cons rfl (.cons ry .nil)) (by simpa using h)
def tOwn (C : Addr) (sp : Sp) (E : St → XK) (P : V → Hp → Prop) (ta tb : TE) : TE := fun σ H Q => ta σ H fun x H1 => tb σ H1 fun y H2 => ∃ a dx fs, x = .ref a ∧ H2 a = some (.ins C dx fs) ∧ P y H2 ∧ sp [.ref a, y] H2 Q (E σ)
def isIns (C : Addr) : V → Hp → Prop := fun y H => ∃ b dx fs, y = .ref b ∧ H b = some (.ins C dx fs)
def anyV : V → Hp → Prop := fun _ _ => True
def isIntV : V → Hp → Prop := fun y _ => ∃ i, y = .int i
/-- o + q of two instances of one class -/
theorem pe_addO {op : Operator} {E : St → XK} (m : Meth X.K C (PySem.dunder op.info.2) f) (c : OpC X.K C) (F : FnOk X.prog X.w X.K X.mg X.base CX k f fd ps sp) (hr : Room k X.A) (hb : Binds X.K fd ps []) (hx : ∀ σ, PassesAt CX X σ (E σ))
    (ha : PE X e1 t1) (hb2 : PE X e2 t2) : PE X (.BinOp e1 op e2 pos) (tOwn C sp E (isIns C) t1 t2) := by
  refine ⟨fun pins s σ H Q I h => wpAny_BinOp (binT ha hb2 I h fun v u s2 x y H2 I2 rx ry q => ?_)⟩
  obtain ⟨a, dx, fs, rfl, ea, ⟨b, dx2, fs2, rfl, eb⟩, q⟩ := q
  cases rx
  cases ry
  obtain ⟨od, J⟩ := I2.instAt ea
  obtain ⟨od2, J2⟩ := I2.instAt eb
  obtain ⟨m0, hF⟩ := I2.fr
  exact PySem.W.binop_K hF I2.ok.mod.kin J J2.type c.first m.at_ m.fn (thn (run_two (y := .ref b) F hr rfl hb (hx σ) I2 rfl q) fun _ _ z => z.back)
/-- x in o -/
def tInO (C : Addr) (sp : Sp) (E : St → XK) (ta tb : TE) : TE := fun σ H Q => ta σ H fun x H1 => tb σ H1 fun y H2 => ∃ a dx fs, y = .ref a ∧ H2 a = some (.ins C dx fs) ∧ sp [.ref a, x] H2 (fun v H' => ∃ b, v = .bl b ∧ Q (.bl b) H') (E σ)
theorem in_run {E : St → XK} {x : V} {u : Value} {Q : VK} (m : Meth X.K C "__contains__" f) (F : FnOk X.prog X.w X.K X.mg X.base CX k f fd ps sp) (hr : Room k X.A) (hb : Binds X.K fd ps []) (hx : ∀ σ, PassesAt CX X σ (E σ)) (I2 : Inv X pins σ H s) (rx : RelV x u) (ea : H a = some (.ins C dx fs))
    (q : sp [.ref a, x] H (fun v H' => ∃ b, v = .bl b ∧ Q (.bl b) H') (E σ)) : wpAny (model X.prog X.w) X.A (compareOp .In u (.ref a)) (EP X pins σ Q) X.xe s := by
  obtain ⟨od, J⟩ := I2.instAt ea
  obtain ⟨m0, hF⟩ := I2.fr
  refine PySem.W.in_K hF I2.ok.mod.kin J m.at_ m.fn (thn (run_two F hr rfl hb (hx σ) I2 rx q) ?_)
  rintro v s3 ⟨z, H3, I3, rz, b, rfl, q3⟩
  cases rz
  exact wpAny_truthy_bool ⟨.bl b, H3, I3, rfl, q3⟩
theorem pe_inO {E : St → XK} (m : Meth X.K C "__contains__" f) (F : FnOk X.prog X.w X.K X.mg X.base CX k f fd ps sp) (hr : Room k X.A) (hb : Binds X.K fd ps []) (hx : ∀ σ, PassesAt CX X σ (E σ))
    (ha : PE X e1 t1) (hb2 : PE X e2 t2) (hm : behindInMarks .In e2 = false) : PE X (.Compare e1 [.In] [e2] pos) (tInO C sp E t1 t2) := by
  refine ⟨fun pins s σ H Q I h => wpAny_Compare1 (binT ha hb2 I h fun v u s2 x y H2 I2 rx ry q => ?_) hm⟩
  obtain ⟨a, dx, fs, rfl, ea, q⟩ := q
  cases ry
  exact in_run m F hr hb hx I2 rx ea q
/-- o[i] by an own __getitem__ -/
theorem pe_getO {E : St → XK} (m : Meth X.K C "__getitem__" f) (hf : PySem.W.fnIn X.K f = true) (F : FnOk X.prog X.w X.K X.mg X.base CX k f fd ps sp) (hr : Room (k + 1) X.A) (hb : Binds X.K fd ps []) (hx : ∀ σ, PassesAt CX X σ (E σ))
    (ha : PE X e1 t1) (hb2 : PE X e2 t2) (hs : ∀ o i, subscripted e2 true o i = runValue (.builtin "lifetime.subscript" ⟨[o, i], []⟩)) : PE X (.Subscript e1 e2 pos) (tOwn C sp E anyV t1 t2) := by
  refine ⟨fun pins s σ H Q I h => Subscript_ (binT ha hb2 I h fun v u s2 x y H2 I2 rx ry q => ?_)⟩
  obtain ⟨a, dx, fs, rfl, ea, _, q⟩ := q
  cases rx
  obtain ⟨od, J⟩ := I2.instAt ea
  obtain ⟨m0, hF⟩ := I2.fr
  exact PySem.W.sub_K hF I2.ok.mod.kin J m.at_ hf m.fn (run_two F hr.in1 rfl hb (hx σ) I2 ry q) (hs _ _)
/-- i:j in a subscript -/
def tSli (ta tb : TE) : TE := fun σ H Q => ta σ H fun x H1 => tb σ H1 fun y H2 => ∃ i j, x = .int i ∧ y = .int j ∧ ∀ p, H2 p = none → Q (.ref p) (upd H2 p (Sli p i j))
theorem pe_sli {p2 : Pos} (ha : PE X e1 t1) (hb2 : PE X e2 t2) : PE X (.Slice (some e1) (some e2) none p2) (tSli t1 t2) := by
  refine ⟨fun pins s σ H Q I h => ?_⟩
  refine wpAny_Slice (thn (ha.run pins s σ H _ I h) fun vl s2 ⟨x, H2, I2, r1, q2⟩ => thn (hb2.run pins s2 σ H2 _ I2 q2) fun vu s3 ⟨y, H3, I3, r2, q3⟩ => ?_)
  obtain ⟨i, j, rfl, rfl, q⟩ := q3
  obtain ⟨t, rfl⟩ := r1
  obtain ⟨u, rfl⟩ := r2
  rw [evalPart_none]
  refine wpAny_pure ?_
  have fr : H3 s3.heap.objs.size = none := I3.hok.fresh (Nat.le_refl _)
  have I4 : Inv X pins σ (upd H3 s3.heap.objs.size (Sli s3.heap.objs.size i j)) { s3 with heap := s3.heap.push { cls := .type "slice", data := .fields #[.int i t, .int j u, .none] } } :=
    I3.laid (t' := s3.toks) (fun _ _ q => Heap.get?_push_of_some _ q) (Nat.le_refl _) ⟨⟨t, u, Heap.get?_push_size _ rfl⟩, ⟨_, Heap.get?_push_size _ rfl⟩, fun h1 h2 z k => let ⟨t, u, e⟩ := z; ⟨t, u, k _ e⟩⟩
  exact ⟨.ref s3.heap.objs.size, _, I4, rfl, q _ fr⟩
theorem pe_getOS {lo hi : Option Expr} {p2 : Pos} {E : St → XK} (m : Meth X.K C "__getitem__" f) (hf : PySem.W.fnIn X.K f = true) (c : OpC X.K C) (F : FnOk X.prog X.w X.K X.mg X.base CX k f fd ps sp) (hr : Room k X.A) (hb : Binds X.K fd ps []) (hx : ∀ σ, PassesAt CX X σ (E σ))
    (ha : PE X e1 t1) (hb2 : PE X (.Slice lo hi none p2) t2) : PE X (.Subscript e1 (.Slice lo hi none p2) pos) (tOwn C sp E anyV t1 t2) := by
  refine ⟨fun pins s σ H Q I h => Subscript_ (binT ha hb2 I h fun v u s2 x y H2 I2 rx ry q => ?_)⟩
  obtain ⟨a, dx, fs, rfl, ea, _, q⟩ := q
  cases rx
  obtain ⟨od, J⟩ := I2.instAt ea
  obtain ⟨m0, hF⟩ := I2.fr
  exact PySem.W.sub_KS hF I2.ok.mod.kin J m.at_ hf m.fn c.noseq (run_two F hr rfl hb (hx σ) I2 ry q)
/-- o[i] = v by an own __setitem__ -/
def gSubO (C : Addr) (sp : Sp) (E : St → XK) (to ti : TE) : TG := fun v σ H Q => to σ H fun x H1 => ti σ H1 fun i H2 => ∃ a dx fs, x = .ref a ∧ H2 a = some (.ins C dx fs) ∧ sp [.ref a, i, v] H2 (fun _ H3 => Q σ H3) (E σ)
theorem pg_subO {l : List Value → List Value} {E : St → XK} (m : Meth X.K C "__setitem__" f) (c : OpC X.K C) (F : FnOk X.prog X.w X.K X.mg X.base CX k f fd ps sp) (hr : Room k X.A) (hb : Binds X.K fd ps []) (hx : ∀ σ, PassesAt CX X σ (E σ))
    (ho : PE X e1 t1) (hi : PE X e2 t2)
    (ha : ∀ v, assign (.Subscript e1 e2 pos) X.env v = (do
      let ov ← holding [v] (eval e1 X.env)
      let iv ← holding [v, ov] (eval e2 X.env)
      standAt pos
      holding [v, ov, iv] (setItem ov iv v)
      release (l [v, ov, iv]) [])) : PG X (.Subscript e1 e2 pos) (gSubO C sp E t1 t2) := by
  refine ⟨fun pins s σ H v u Q I r h => ?_⟩
  rw [ha]
  refine wpAny_bind (wpAny_holding (thn (ho.run pins s σ H _ I h) fun ov s1 ⟨x, H1, I1, r1, q1⟩ => ?_))
  refine wpAny_bind (wpAny_holding (thn (hi.run pins s1 σ H1 _ I1 q1) fun iv s2 ⟨y, H2, I2, r2, a, dx, fs, ex, ea, q2⟩ => ?_))
  subst ex
  cases r1
  obtain ⟨od, J⟩ := I2.instAt ea
  obtain ⟨m0, hF⟩ := I2.fr
  refine wpAny_bind (wpAny_standAt (wpAny_bind (wpAny_holding (PySem.W.ksp_setItem hF I2.ok.mod.kin J c.noseq m.at_ m.fn (thn (run_in (vs := [.ref a, y, v]) (dvs := []) (ds := []) F hr rfl hb .nil (hx σ) I2 (.cons rfl (.cons r2 (.cons r .nil))) (by simpa using q2)) ?_)))))
  rintro z s3 ⟨zv, H3, I3, _, q3⟩
  exact wpAny_release ⟨σ, H3, I3, q3⟩
end
end L2

/-! Slices as values; operators of own classes with ints; += of own classes. -/
namespace L2
open PySem PySem.Spec PyProof.Rows
section
variable {X : Cx} {CX : CXT} {k : Nat} {f C a dx : Addr} {fs : List (Str × V)} {fd : FuncData} {ps : List Str} {sp : Sp} {pins : List (Addr × Obj)} {σ : St} {H : Hp} {s : Shared} {pos : Pos} {e1 e2 e3 : Expr} {t1 t2 t3 : TE}
theorem passE0 (σ : St) : PassesAt (L2.CX X.prog X.w) X σ E0 := fun _ _ _ _ _ _ h => by
  obtain ⟨_, _, _, _, _, _, _, _, _, _, _, _, z⟩ := h
  exact z.elim
theorem fnIn_D {K : Frg} {x qual : Str} {params : Arguments} {body : List Stmt} {scope : Scope} {dvs : List V} {kws : List (Str × V)} (F : FunD K x qual params body scope dvs kws f fd) : PySem.W.fnIn K f = true := by
  obtain ⟨oc, od, dV, kV, doc, pm, an, cdv, ct, osl, rfl, lk, _⟩ := F.ex
  unfold PySem.W.fnIn
  rw [lk]
theorem sli_of {p : Addr} {i j : Int} (I : Inv X pins σ H s) (h : H p = some (Sli p i j)) : ∃ t u, s.heap.IsSliceOf p (.int i t) (.int j u) .none := by
  obtain ⟨⟨t, u, e⟩, _⟩ := I.hok p _ h
  exact ⟨t, u, _, e, rfl, rfl⟩
/-- a[s], s a slice object -/
def rIxSl (r : SlV) : R2 := fun x y H Q => ∃ p i j, y = .ref p ∧ H p = some (Sli p i j) ∧ r x (some i) (some j) H Q
theorem ix_sli {r : SlV} (hr : SlR X r) : IxR X (rIxSl r) := by
  intro value slice pins s σ H x y v u Q I rx ry h hs
  obtain ⟨p, i, j, rfl, hp, q⟩ := h
  cases ry
  obtain ⟨t, u, e⟩ := sli_of I hp
  obtain ⟨T, id, hT, ht, hg⟩ := hr pins s σ H x v _ _ _ _ p Q I rx e (.int i t) (.int j u) q
  exact tail_any ht hT hg hs
/-- a[i], a[s] -/
def rIxW (K : Frg) : R2 := fun x y H Q => rIx K x y H Q ∨ rIxSl (rSlA K) x y H Q
theorem ix_W : IxR X (rIxW X.K) := ix_seq.or (ix_sli sl_A)
/-- a[s] = b of lists, s a slice object -/
def rSetSl : TSet := fun o i v H Q => ∃ l b p xs ys c d, o = .ref l ∧ i = .ref p ∧ v = .ref b ∧ H l = some (.lst xs) ∧ H b = some (.lst ys) ∧ l ≠ b ∧ H p = some (Sli p c d) ∧ 0 ≤ c ∧ c ≤ d ∧ d ≤ xs.length ∧ xs.length + ys.length ≤ sizeLine ∧ Q (upd H l (.lst (xs.take c.toNat ++ ys ++ xs.drop d.toNat)))
theorem set_sli : PSet X rSetSl := by
  intro pins s σ H o i v ov iv u Q I ro ri rv h
  obtain ⟨l, b, p, xs, ys, c, d, rfl, rfl, rfl, hl, hb, ne, hp, h0, hcd, hd, hz, q⟩ := h
  cases ro
  cases ri
  cases rv
  obtain ⟨t, w, e⟩ := sli_of I hp
  exact set_slice I hl hb ne e ⟨t, rfl⟩ ⟨w, rfl⟩ h0 hcd hd hz fun s' I' => ⟨_, I', q⟩
def rSetW : TSet := fun o i v H Q => rSetL o i v H Q ∨ rSetSl o i v H Q
theorem set_W : PSet X rSetW := by
  intro pins s σ H o i v ov iv u Q I ro ri rv h
  rcases h with h | h
  · exact set_list pins s σ H o i v ov iv u Q I ro ri rv h
  · exact set_sli pins s σ H o i v ov iv u Q I ro ri rv h
/-- i * o -/
structure RmC (K : PySem.W.Frag) (C : Addr) : Prop where
  no : PySem.W.findIn K (.ref C) "__mul__" = some none
  sub : PySem.W.subIn K (.ref C) (.type "int") = some false
def tRmul (C : Addr) (sp : Sp) (E : St → XK) (ta tb : TE) : TE := fun σ H Q => ta σ H fun x H1 => tb σ H1 fun y H2 => ∃ i a dx fs, x = .int i ∧ y = .ref a ∧ H2 a = some (.ins C dx fs) ∧ sp [.ref a, .int i] H2 Q (E σ)
theorem pe_rmulO {E : St → XK} (m : Meth X.K C "__rmul__" f) (c : OpC X.K C) (c2 : RmC X.K C) (F : FnOk X.prog X.w X.K X.mg X.base CX k f fd ps sp) (hr : Room k X.A) (hb : Binds X.K fd ps []) (hx : ∀ σ, PassesAt CX X σ (E σ))
    (ha : PE X e1 t1) (hb2 : PE X e2 t2) : PE X (.BinOp e1 .Mult e2 pos) (tRmul C sp E t1 t2) := by
  refine ⟨fun pins s σ H Q I h => wpAny_BinOp (binT ha hb2 I h fun v u s2 x y H2 I2 rx ry q => ?_)⟩
  obtain ⟨i, a, dx, fs, rfl, rfl, ea, q⟩ := q
  obtain ⟨t, rfl⟩ := rx
  cases ry
  obtain ⟨od, J⟩ := I2.instAt ea
  obtain ⟨m0, hF⟩ := I2.fr
  exact PySem.W.rmul_K (fun v z => by cases z) hF I2.ok.mod.kin J c.first m.at_ c2.no m.fn c2.sub (thn (run_two (y := .int i) F hr rfl hb (hx σ) I2 ⟨t, rfl⟩ q) fun _ _ z => z.back)
/-- o op i -/
structure BiC (K : PySem.W.Frag) (C : Addr) (nm : String) : Prop where
  r : PySem.W.findIn K (.ref C) (PySem.dunderR nm) = some none
  f1 : ∃ v, PySem.W.findIn K (.type "int") (PySem.dunder nm) = some v
  f2 : ∃ v, PySem.W.findIn K (.type "int") (PySem.dunderR nm) = some v
  sub : PySem.W.subIn K (.type "int") (.ref C) = some false
theorem pe_binI {op : Operator} {E : St → XK} (m : Meth X.K C (PySem.dunder op.info.2) f) (c : OpC X.K C) (c2 : BiC X.K C op.info.2) (F : FnOk X.prog X.w X.K X.mg X.base CX k f fd ps sp) (hr : Room k X.A) (hb : Binds X.K fd ps []) (hx : ∀ σ, PassesAt CX X σ (E σ))
    (ha : PE X e1 t1) (hb2 : PE X e2 t2) : PE X (.BinOp e1 op e2 pos) (tOwn C sp E isIntV t1 t2) := by
  refine ⟨fun pins s σ H Q I h => wpAny_BinOp (binT ha hb2 I h fun v u s2 x y H2 I2 rx ry q => ?_)⟩
  obtain ⟨a, dx, fs, rfl, ea, ⟨i, rfl⟩, q⟩ := q
  cases rx
  obtain ⟨t, rfl⟩ := ry
  obtain ⟨od, J⟩ := I2.instAt ea
  obtain ⟨m0, hF⟩ := I2.fr
  obtain ⟨v1, f1⟩ := c2.f1
  obtain ⟨v2, f2⟩ := c2.f2
  exact PySem.W.ksp_binT (T := "int") hF I2.ok.mod.kin J rfl c.first m.at_ m.fn c2.r (.inl rfl) f1 f2 c2.sub (thn (run_two (y := .int i) F hr rfl hb (hx σ) I2 ⟨t, rfl⟩ q) fun _ _ z => z.back)
/-- x op= q, x an instance with its own method -/
def rIpO (C : Addr) (sp : Sp) (E : XK) : TIp := fun x y H Q => ∃ a dx fs, x = .ref a ∧ H a = some (.ins C dx fs) ∧ sp [.ref a, y] H Q E
theorem ip_own {op : Operator} {E : XK} (m : Meth X.K C (PySem.dunderI op.info.2) f) (c : OpC X.K C) (F : FnOk X.prog X.w X.K X.mg X.base CX k f fd ps sp) (hr : Room k X.A) (hb : Binds X.K fd ps []) (hx : ∀ σ, PassesAt CX X σ E) : PIp X op (rIpO C sp E) := by
  intro pins s σ H x y v u Q I rx ry h
  obtain ⟨a, dx, fs, rfl, ea, q⟩ := h
  cases rx
  obtain ⟨od, J⟩ := I.instAt ea
  obtain ⟨m0, hF⟩ := I.fr
  exact PySem.W.ksp_inplace hF I.ok.mod.kin J c.first m.at_ m.fn (thn (run_two F hr rfl hb (hx σ) I ry q) fun _ _ z => z.back)
end
end L2
namespace Rz
open PySem PySem.Spec PyProof.Rows L2 He
def opB (C : Str) : Fg → Bool := fun K => PySem.W.selfFirst K (ga K C) && PySem.W.noSeq K (ga K C)
theorem opB_ok {C : Str} {K : Fg} (h : opB C K = true) : OpC K (ga K C) := ⟨(ba h).1, (ba h).2⟩
def rmB (C : Str) : Fg → Bool := fun K => eqO (PySem.W.findIn K (.ref (ga K C)) "__mul__") (some none) && decide (PySem.W.subIn K (.ref (ga K C)) (.type "int") = some false)
theorem rmB_ok {C : Str} {K : Fg} (h : rmB C K = true) : RmC K (ga K C) := ⟨eqO_ok (ba h).1, of_decide_eq_true (ba h).2⟩
def biB (C : Str) (nm : String) : Fg → Bool := fun K => (eqO (PySem.W.findIn K (.ref (ga K C)) (PySem.dunderR nm)) (some none) && decide (PySem.W.subIn K (.type "int") (.ref (ga K C)) = some false)) && ((PySem.W.findIn K (.type "int") (PySem.dunder nm)).isSome && (PySem.W.findIn K (.type "int") (PySem.dunderR nm)).isSome)
theorem biB_ok {C : Str} {nm : String} {K : Fg} (h : biB C nm K = true) : BiC K (ga K C) nm :=
  ⟨eqO_ok (ba (ba h).1).1, Option.isSome_iff_exists.mp (ba (ba h).2).1, Option.isSome_iff_exists.mp (ba (ba h).2).2, of_decide_eq_true (ba (ba h).1).2⟩
end Rz

/-! isinstance of a slice object. -/
namespace RzSl
open PySem PySem.F
theorem ga_entry : entryFor table "slice.__getattribute__" = some Builtin.«object.__getattribute__» := by
  refine entryFor_alias (id' := "object.__getattribute__") ?_ ?_ ?_ ?_
  · kernel_rfl
  · first | rfl | decide +kernel
  · decide +kernel
  · kernel_rfl
theorem ga_slot : Slot "slice" "__getattribute__" "slice.__getattribute__" := by
  refine Slot.of (owner := "slice") (n := "__getattribute__") ?_ ?_ ?_ ?_ ?_ ?_
  · rw [typeLookup_type, builtinLookup_eq_fast]
    kernel_rfl
  · decide +kernel
  · decide +kernel
  · decide +kernel
  · first | exact .inl (by decide +kernel) | exact .inr (by decide +kernel)
  · rw [isSubtype_type]
    kernel_rfl
theorem ga_args (a b : Value) : argsOk "slice.__getattribute__" ⟨[a, b], []⟩ := by
  unfold argsOk
  kernel_rfl
theorem cls_lk : typeLookup (.type "slice") "__class__" = pure (some (.builtin "object.__class__")) := by
  rw [typeLookup_type, builtinLookup_eq_fast]
  kernel_rfl
theorem cls_owner : isSubtype (.type "slice") (.type (".".intercalate ("object.__class__".cutAt '.').dropLast)) = pure true := by
  rw [owner_object_class]
  rw [isSubtype_type]
  kernel_rfl
section
variable {P : Program} {w : World} {A : Around} {E : Value → Shared → Prop} {h : Heap} {g : Array GenState} {d : Drawn} {t : Nat} {os : OsState} {a : Addr} {o : Obj}
theorem c_get {R : Result → Shared → Prop} (hx : h.get? a = some o) (hc : o.cls = .type "slice") (hq : R (.ok (.ret (.type "slice"))) ⟨h, g, d, t, os⟩) :
    codeAny (model P w) A (.call (.builtin "getset_descriptor.__get__") ⟨[.builtin "object.__class__", .ref a, .type "slice"], []⟩) R ⟨h, g, d, t, os⟩ := by
  have k1 : (⟨h, g, d, t, os⟩ : Shared).TypeIs (.ref a) "slice" := ⟨_, hx, hc⟩
  have k2 : (⟨h, g, d, t, os⟩ : Shared).TypeIs (.builtin "object.__class__") "getset_descriptor" := typeOf_object_class
  have k3 := cls_owner
  refine codeAny_call_builtin slot_gs_get.plain entry_gs_get ?_
  refine slot_gs_get.check _ _ _ _ _ _ _ _ k2 (args_gs_get _ _ _) ?_
  repeat (any_goals (first | assumption | wp_step))
  refine ⟨Code.quiet_builtin _ (by decide +kernel), ?_⟩
  refine codeAny_builtin entry_object_class ?_
  repeat (any_goals (first | assumption | wp_step))
theorem c_entry {tk : Tok} {Q : Fin → Shared → Prop} (hx : h.get? a = some o) (hc : o.cls = .type "slice") (hq : Q (.done (.ret (.type "slice"))) ⟨h, g, d, t, os⟩) :
    wpAny (model P w) A (Builtin.«object.__getattribute__» ⟨[.ref a, .str "__class__" tk], []⟩) Q E ⟨h, g, d, t, os⟩ := by
  have k1 : (⟨h, g, d, t, os⟩ : Shared).TypeIs (.ref a) "slice" := ⟨_, hx, hc⟩
  have k2 : (⟨h, g, d, t, os⟩ : Shared).TypeIs (.builtin "object.__class__") "getset_descriptor" := typeOf_object_class
  have k3 := cls_lk
  have k4 := typeOf_object_class
  have k5 := slot_gs_get.lookup
  have k6 := slot_gs_set.lookup
  repeat (any_goals (first | assumption | wp_step))
  refine c_get hx hc ?_
  repeat (any_goals (first | assumption | wp_step))
theorem c_by {tk : Tok} {Q : Value → Shared → Prop} (hx : h.get? a = some o) (hc : o.cls = .type "slice") (hq : Q (.type "slice") ⟨h, g, d, t, os⟩) : wpAny (model P w) A (getAttrBy (.ref a) (.str "__class__" tk) false) Q E ⟨h, g, d, t, os⟩ := by
  have k1 : (⟨h, g, d, t, os⟩ : Shared).TypeIs (.ref a) "slice" := ⟨_, hx, hc⟩
  have k2 := ga_slot.lookup
  have k3 := ga_slot.bind (.ref a)
  repeat (any_goals (first | assumption | wp_step))
  refine codeAny_call_builtin ga_slot.plain ga_entry ?_
  refine ga_slot.check _ _ _ _ _ _ _ _ k1 (ga_args _ _) ?_
  refine c_entry hx hc ?_
  repeat (any_goals (first | assumption | wp_step))
theorem c_attr {Q : Option Value → Shared → Prop} (hx : h.get? a = some o) (hc : o.cls = .type "slice") (hq : Q (some (.type "slice")) ⟨h, g, d, t + 1, os⟩) : wpAny (model P w) A (getAttr? (.ref a) "__class__") Q E ⟨h, g, d, t, os⟩ := by
  unfold getAttr? getAttrBy?
  repeat (any_goals (first | assumption | with_reducible apply c_by hx hc | wp_step))
end
theorem kit {K : PySem.W.Frag} {a : Addr} : PySem.W.KitX K (.ref a) (.type "slice") (PySem.W.KitAt a "slice") := by
  refine PySem.W.kitx_of PySem.W.kitAt_ty ?_
  intro P w A E Q s p k
  obtain ⟨h, g, d, t, os⟩ := s
  obtain ⟨o, h1, h2⟩ := p
  exact c_attr h1 h2 k
end RzSl
namespace L2
open PySem PySem.Spec PyProof.Rows
/-- isinstance, slice objects besides -/
def rIsiW (K : Frg) : RC := fun xs H Q => rIsi K xs H Q ∨ ∃ p i j c u b, xs = [.ref p, c] ∧ H p = some (Sli p i j) ∧ ClsV c u ∧ PySem.W.kitOne K (.type "slice") u = some b ∧ Q (.bl b) H
theorem c_isiW {X : Cx} : CallR X (.builtin "isinstance") (rIsiW X.K) := by
  intro pins s σ H xs us Q I r h
  rcases h with h | ⟨p, i, j, c, u, b, rfl, hp, k, e, q⟩
  · exact call_isi pins s σ H xs us Q I r h
  · obtain ⟨u1, u2, rfl, r1, r2⟩ := vals2 r
    have e2 := k.eq r2
    subst e2
    cases r1
    obtain ⟨⟨t, u, e3⟩, _⟩ := I.hok p _ hp
    exact PySem.W.kia_one RzSl.kit I.kIn ⟨_, e3, rfl⟩ e (fun z => nomatch z) fun tk => ⟨.bl b, H, I.tok tk, rfl, q⟩
end L2

/-! Calls with keywords; instances called. -/
namespace L2
open PySem PySem.Spec PyProof.Rows
section
variable {K : PySem.W.Frag} {x qual : Str} {params : Arguments} {body : List Stmt} {scope : Scope} {dvs : List V} {kws : List (Str × V)} {f : Addr} {fd : FuncData} {ps : List Str}
/-- a def with defaults, none of them keyword-only: keywords ks -/
theorem FunD.kbD (F : FunD K x qual params body scope dvs [] f fd) (n : Nat) (ks : List Str) (g : {α : Type} → List α → List α → List α → List α) (hd : dvs ≠ [])
    (hrel : ∀ {vs ds zs : List V} {us its ws : List Value}, Vals vs us → Vals ds its → Vals zs ws → Vals (g vs ds zs) (g us its ws))
    (h : ∀ (T : Addr) (kV doc pm : Value) (an : Option Addr) (cdv ct : Value) (us its ws : List Value), us.length = n → its.length = dvs.length → ws.length = ks.length →
      ∃ k, bindArgs (PySem.W.fnOf x qual params body scope (.ref T) kV doc pm an cdv ct) ⟨us, ks.zip ws⟩ = seqItems? (.ref T) >>= k ∧ k (some its.toArray) = pure (ps.zip (g us its ws))) :
    ∃ its : List Value, KBn K fd ps n ks (fun us ws => g us its ws) (fun vs zs => g vs dvs zs) := by
  obtain ⟨oc, od, dV, kV, doc, pm, an, cdv, ct, osl, rfl, lk, hcd, hD, hK⟩ := F.ex
  rcases hD with ⟨e, _⟩ | ⟨_, T, o, its, m, rfl, lT, oT, rT⟩
  · exact absurd e hd
  · refine ⟨its, ⟨fun s us ws X l1 l2 => ?_, fun r1 r2 => hrel r1 rT r2⟩⟩
    obtain ⟨k, e1, e2⟩ := h T kV doc pm an cdv ct us its ws l1 rT.length.symm l2
    refine BindsTo.of_looks fun M => ?_
    rw [e1]
    exact looks_items X lT oT (.of_pure e2)
/-- a def without defaults, or with keyword-only ones that are all written -/
theorem FunD.kbK (F : FunD K x qual params body scope [] kws f fd) (n : Nat) (ks : List Str) (g : {α : Type} → List α → List α → List α)
    (hrel : ∀ {vs zs : List V} {us ws : List Value}, Vals vs us → Vals zs ws → Vals (g vs zs) (g us ws))
    (h : ∀ (kV doc pm : Value) (an : Option Addr) (cdv ct : Value) (us ws : List Value), us.length = n → ws.length = ks.length →
      bindArgs (PySem.W.fnOf x qual params body scope .none kV doc pm an cdv ct) ⟨us, ks.zip ws⟩ = pure (ps.zip (g us ws))) :
    KBn K fd ps n ks (fun us ws => g us ws) (fun vs zs => g vs zs) := by
  obtain ⟨oc, od, dV, kV, doc, pm, an, cdv, ct, osl, rfl, lk, hcd, hD, hK⟩ := F.ex
  rcases hD with ⟨_, rfl⟩ | ⟨e, _⟩
  · exact ⟨fun s us ws X l1 l2 => BindsTo.of_eq (h kV doc pm an cdv ct us ws l1 l2), fun r1 r2 => hrel r1 r2⟩
  · exact absurd rfl e
/-- .. keyword-only defaults, those of ms lack -/
theorem FunD.kbM (F : FunD K x qual params body scope [] kws f fd) (n : Nat) (ks : List Str) (ms : List (Str × V)) (g : {α : Type} → List α → List α → List α → List α) (hk : kws ≠ []) (hms : ∀ q ∈ ms, q ∈ kws)
    (hrel : ∀ {vs mz zs : List V} {us mv ws : List Value}, Vals vs us → Vals mz mv → Vals zs ws → Vals (g vs mz zs) (g us mv ws))
    (h : ∀ (D : Addr) (doc pm : Value) (an : Option Addr) (cdv ct : Value) (us mv ws : List Value), us.length = n → mv.length = ms.length → ws.length = ks.length →
      KwChain D ((ms.map (·.1)).zip mv) (bindArgs (PySem.W.fnOf x qual params body scope .none (.ref D) doc pm an cdv ct) ⟨us, ks.zip ws⟩) (ps.zip (g us mv ws))) :
    ∃ mv : List Value, KBn K fd ps n ks (fun us ws => g us mv ws) (fun vs zs => g vs (ms.map (·.2)) zs) := by
  obtain ⟨oc, od, dV, kV, doc, pm, an, cdv, ct, osl, rfl, lk, hcd, hD, hK⟩ := F.ex
  rcases hD with ⟨_, rfl⟩ | ⟨e, _⟩
  · rcases hK with e | ⟨D, rfl, hq⟩
    · exact absurd e hk
    · obtain ⟨mv, hl, rk, hks⟩ := kwd_vals (ms := ms) fun q hm => hq q (hms q hm)
      exact ⟨mv, ⟨fun s us ws X l1 l2 => BindsTo.of_looks fun M => KwChain.looks X hks (h D doc pm an cdv ct us mv ws l1 hl l2), fun r1 r2 => hrel r1 rk r2⟩⟩
  · exact absurd rfl e
end
section
variable {X : Cx} {CX : CXT} {k n : Nat} {f C : Addr} {fd : FuncData} {ps ks : List Str} {sp : Sp} {dvs : List V} {ds : List Value} {E : St → XK} {x m : Str} {p pos apos : Pos} {e o : Expr} {es : List Expr} {kws : List Keyword} {ta : TE} {t tk : TA} {g : List Value → List Value → List Value} {gV : List V → List V → List V}
theorem run_fnNS {pins : List (Addr × Obj)} {σ : St} {H : Hp} {s : Shared} {Q : VK} {us ws : List Value} {vs zs : List V} (F : FnOk X.prog X.w X.K X.mg X.base CX k f fd ps sp) (hr : Room k X.A) (hb : KBn X.K fd ps n ks g gV) (hx : PassesAt CX X σ (E σ))
    (I : Inv X pins σ H s) (r : Vals vs us) (rz : Vals zs ws) (l1 : vs.length = n) (l2 : zs.length = ks.length) (h : sp (gV vs zs) H Q (E σ)) : codeAny (model X.prog X.w) X.A (.call (.ref f) ⟨us, ks.zip ws⟩) (wants (EP X pins σ Q) X.xe) s := by
  refine codeAny_mono (F.run X.A X.stack s H ⟨us, ks.zip ws⟩ (g us ws) (gV vs zs) Q (E σ) hr I.env0 (hb.to s us ws I.kIn (r.length.symm.trans l1) (rz.length.symm.trans l2)) (hb.rel r rz) h) ?_
  intro res s' hq
  match res, hq with
  | .error e, hq => exact hx pins H s e s' I hq
  | .ok (.ret u), hq => exact I.after hq
  | .ok .next, hq => exact hq.elim
  | .ok .brk, hq => exact hq.elim
  | .ok .cont, hq => exact hq.elim
def tCallNS (n m : Nat) (sp : Sp) (gV : List V → List V → List V) (E : St → XK) (t tk : TA) : TE := fun σ H Q => t σ H fun vs H1 => tk σ H1 fun zs H2 => vs.length = n ∧ zs.length = m ∧ sp (gV vs zs) H2 Q (E σ)
/-- f(e, .., k = v, ..) -/
theorem pe_callNS (F : FnOk X.prog X.w X.K X.mg X.base CX k f fd ps sp) (hr : Room k X.A) (hg : Gl X x) (hm : X.mg x = some (.ref f)) (hk : PySem.W.keepIn X.K (.ref f) = true) (hb : KBn X.K fd ps n ks g gV) (hx : ∀ σ, PassesAt CX X σ (E σ))
    (ha : PA X (e :: es) t) (hkw : PK X kws tk) (hall : (backToKw pos (keywordEach kws X.env)).all (·.1.isSome) = true := by rfl) (hks : (backToKw pos (keywordEach kws X.env)).filterMap (·.1) = ks := by rfl)
    (hdb : (x == ("__debug__" : Str)) = false := by decide) (he : starEach (e :: es) X.env = (false, eval e X.env) :: starEach es X.env := by rfl)
    (hpl : ((backTo pos (starEach (e :: es) X.env)).any (·.1) || (backToKw pos (keywordEach kws X.env)).any (·.1.isNone)) = false := by rfl) :
    PE X (.Call (.Name x p) (e :: es) kws pos) (tCallNS n ks.length sp gV E t tk) := by
  refine ⟨fun pins s σ H Q I h => ?_⟩
  refine wpAny_Call_Name_kw (ld_glob I hg hm ?_ hdb)
  refine PySem.W.callWith_KW (h₀ := X.base) I.ok.mod.kin hk hall (thn (ha.run pos pins s σ H _ I h) fun us s1 ⟨vs, H1, I1, r, q⟩ => ?_) hpl he
  refine thn (hkw.run pos pins s1 σ H1 _ I1 q) fun ws s2 ⟨zs, H2, I2, rz, l1, l2, q2⟩ => ⟨I2.kIn, ?_⟩
  rw [hks]
  exact wpAny_call (run_fnNS F hr hb (hx σ) I2 r rz l1 l2 q2)
/-- an instance called, positional -/
structure CaC (K : PySem.W.Frag) (C g : Addr) : Prop where
  m : Meth K C "__call__" g
  fi : PySem.W.fnIn K g = true
def tCaO (C : Addr) (sp : Sp) (dvs : List V) (E : St → XK) (ta : TE) (t : TA) : TE := fun σ H Q => ta σ H fun y H1 => ∃ a, y = .ref a ∧ t σ H1 fun vs H2 => ∃ dx fs, H2 a = some (.ins C dx fs) ∧ sp (.ref a :: (vs ++ dvs)) H2 Q (E σ)
theorem caO_with {M : Model} {A : Around} {E' : Value → Shared → Prop} {s : Shared} {a : Addr} {Q : Value → Shared → Prop} {args : List (Bool × Sem Value)} {kw : List (Option Str × Sem Value)} (hpl : (args.any (·.1) || kw.any (·.1.isNone)) = false)
    (h : wpAny M A (evalArgs (.ref a) true args kw) (fun z s₁ => (∃ C ox od, PySem.W.InstAt s₁.heap a ox C od ∧ ox.data = .plain) ∧ wpAny M A (call (.ref a) z.pos z.kw) Q E' s₁) E' s) : wpAny M A (callWith pos (.ref a) [] args kw) Q E' s := by
  unfold callWith
  refine wpAny_bind (wpAny_holding (wpAny_mono h ?_ fun _ _ y => y))
  rintro z s₁ ⟨⟨C, ox, od, J, hd⟩, h₁⟩
  refine wpAny_bind (wpAny_standAt ?_)
  simp only [hpl]
  refine wpAny_bind ((PySem.W.kco_keeper (M := M) J hd).here ?_)
  refine wpAny_bind (wpAny_mono (wpAny_operateT h₁) ?_ fun _ _ y => y)
  intro r s₂ hr
  exact wpAny_bind (wpAny_holding (wpAny_point (wpAny_pure hr)))
theorem pe_caO {fe : Expr} (hf : PE X fe ta) (c : CaC X.K C f) (F : FnOk X.prog X.w X.K X.mg X.base CX k f fd ps sp) (hr : Room k X.A) (hb : Binds X.K fd ps ds) (hd : Vals dvs ds) (hx : ∀ σ, PassesAt CX X σ (E σ)) (ha : PA X (e :: es) t)
    (ht : eval (.Call fe (e :: es) [] pos) X.env = (do callWith pos (← eval fe X.env) [] (backTo pos (starEach (e :: es) X.env)) (backToKw pos (keywordEach [] X.env))) := by rfl)
    (he : starEach (e :: es) X.env = (false, eval e X.env) :: starEach es X.env := by rfl) (hpl : (backTo pos (starEach es X.env)).any (·.1) = false := by rfl) : PE X (.Call fe (e :: es) [] pos) (tCaO C sp dvs E ta t) := by
  refine ⟨fun pins s σ H Q I h => ?_⟩
  refine Call_ (thn (hf.run pins s σ H _ I h) ?_) ht
  rintro u s1 ⟨y, H1, I1, ry, a, rfl, q⟩
  cases ry
  have hpl2 : ((backTo pos (starEach (e :: es) X.env)).any (·.1) || (backToKw pos (keywordEach [] X.env)).any (·.1.isNone)) = false := by
    rw [he]
    show ((false || (backTo pos (starEach es X.env)).any (·.1)) || false) = false
    rw [hpl]
    rfl
  refine caO_with hpl2 ?_
  have run := ha.run pos pins s1 σ H1 _ I1 q
  rw [he] at run ⊢
  refine PySem.Calls.evalArgs_plain (thn run ?_)
  rintro us s2 ⟨vs, H2, I2, r, dx, fs, ea, q2⟩
  obtain ⟨od, J⟩ := I2.instAt ea
  refine ⟨⟨C, _, _, J, rfl⟩, ?_⟩
  refine wpAny_call (PySem.W.kco_code I2.kIn J rfl c.m.at_ c.m.fn c.fi ?_)
  have rr : Vals (.ref a :: (vs ++ dvs)) (Value.ref a :: us ++ ds) := .cons rfl (r.append hd)
  refine codeAny_mono (F.run X.A X.stack s2 H2 ⟨Value.ref a :: us, []⟩ _ _ Q (E σ) hr I2.env0 (hb s2 (Value.ref a :: us) I2.kIn (rr.length.symm.trans (F.len _ _ _ _ q2))) rr q2) ?_
  intro res s' hq
  match res, hq with
  | .error e, hq => exact hx σ pins H2 s2 e s' I2 hq
  | .ok (.ret u), hq => exact I2.after hq
  | .ok .next, hq => exact hq.elim
  | .ok .brk, hq => exact hq.elim
  | .ok .cont, hq => exact hq.elim
/-- an instance called, with keywords -/
def tCaK (C : Addr) (n m : Nat) (sp : Sp) (gV : List V → List V → List V) (E : St → XK) (ta : TE) (t tk : TA) : TE := fun σ H Q => ta σ H fun y H1 => ∃ a, y = .ref a ∧ t σ H1 fun vs H2 => tk σ H2 fun zs H3 => ∃ dx fs, H3 a = some (.ins C dx fs) ∧ vs.length = n ∧ zs.length = m ∧ sp (gV (.ref a :: vs) zs) H3 Q (E σ)
theorem pe_caK {fe : Expr} (hf : PE X fe ta) (c : CaC X.K C f) (F : FnOk X.prog X.w X.K X.mg X.base CX k f fd ps sp) (hr : Room k X.A) (hb : KBn X.K fd ps (n + 1) ks g gV) (hx : ∀ σ, PassesAt CX X σ (E σ)) (ha : PA X (e :: es) t) (hkw : PK X kws tk)
    (ht : eval (.Call fe (e :: es) kws pos) X.env = (do callWith pos (← eval fe X.env) [] (backTo pos (starEach (e :: es) X.env)) (backToKw pos (keywordEach kws X.env))) := by rfl)
    (hall : (backToKw pos (keywordEach kws X.env)).all (·.1.isSome) = true := by rfl) (hks : (backToKw pos (keywordEach kws X.env)).filterMap (·.1) = ks := by rfl)
    (he : starEach (e :: es) X.env = (false, eval e X.env) :: starEach es X.env := by rfl) (hpl : ((backTo pos (starEach (e :: es) X.env)).any (·.1) || (backToKw pos (keywordEach kws X.env)).any (·.1.isNone)) = false := by rfl) : PE X (.Call fe (e :: es) kws pos) (tCaK C n ks.length sp gV E ta t tk) := by
  refine ⟨fun pins s σ H Q I h => ?_⟩
  rw [ht]
  refine wpAny_bind (thn (hf.run pins s σ H _ I h) ?_)
  rintro u s1 ⟨y, H1, I1, ry, a, rfl, q⟩
  cases ry
  refine caO_with hpl ?_
  refine evalArgs_kw2 hall (thn (ha.run pos pins s1 σ H1 _ I1 q) ?_) he
  rintro us s2 ⟨vs, H2, I2, r, q2⟩
  refine thn (hkw.run pos pins s2 σ H2 _ I2 q2) ?_
  rintro ws s3 ⟨zs, H3, I3, rz, dx, fs, ea, l1, l2, q3⟩
  obtain ⟨od, J⟩ := I3.instAt ea
  refine ⟨⟨C, _, _, J, rfl⟩, ?_⟩
  rw [hks]
  refine wpAny_call (PySem.W.kco_code I3.kIn J rfl c.m.at_ c.m.fn c.fi ?_)
  exact run_fnNS (us := Value.ref a :: us) (vs := .ref a :: vs) F hr hb (hx σ) I3 (.cons rfl r) rz (by rw [List.length_cons, l1]) l2 q3
end
end L2

/-! a law's end where the defs' world of exceptions hangs on the program -/
namespace Rz
open PySem PySem.Spec PyProof.Rows L2
variable {l : PySem.W.OpenLaw} {n k : Nat} {q : Program} {loose : List Str} {XP : (Str → Option Value) → Heap → Prop} {YP : World → Heap → Prop} {d : DefRec} {x : Str}
/-- what the end asks of the head's facts -/
def Given (l : PySem.W.OpenLaw) (n k : Nat) (x : Str) (w : World) (mg : Str → Option Value) (fa : Addr) (h : Heap) : Prop :=
  ∃ (K : PySem.W.Frag) (fd : FuncData) (sp : Sp), K.In h ∧ (∀ (s : Shared) (u : Value), BindsTo s fd ⟨[u], []⟩ [(x, u)]) ∧
    (∀ (H : Hp) (a : Addr) (ns : List Int), ns.length ≤ n → SqL K H a (ns.map V.int) → sp [.ref a] H (fun v _ => v = .bl true) fun _ _ _ => False) ∧
    ∀ base : Heap, K.In base → base.Ns mainGlobals mg → FnOk l.prog w K mg base (L2.CX l.prog w) k fa fd [x] sp
theorem endX (hn : l.most = some n) (hn2 : n ≤ sizeLine) (hdf : d.params.defaults = []) (hr : Room k callerA)
    (F : ∀ (w : World) (mg : Str → Option Value) (fa : Addr) (h : Heap), YP w h → h.Ns mainGlobals mg → mg d.name = some (.ref fa) → Given l n k x w mg fa h) :
    PySem.W.WalkO q loose XP YP l.row.toRowW d [] (fun f vs => PySem.call f vs) := by
  refine Att.attach_call hn hdf ?_
  intro w s₀ s₁ mg mb fa o pm cd doc a vs ns G Y ho hd hcd hmg hobj hints hlen hg
  have T := G.T
  obtain ⟨K, fd, sp, KX, hb, hsp, hF⟩ := F w mg fa _ Y T.g hmg
  refine law_call KX T.g T.b T.builtins T.nolimit hg hobj hints (Nat.le_trans hlen hn2) hr hF hb ?_ ?_
  · exact fun H _ hS => hsp H a ns hlen hS
  · rintro H e s' ⟨_, _, _, _, _, _, _, _, _, _, _, _, z⟩
    exact z
/-- one function object stands at an address -/
theorem fd_one {K : PySem.W.Frag} {y qual y2 qual2 : Str} {ps ps2 : Arguments} {body body2 : List Stmt} {sc sc2 : Scope} {dv dv2 : List V} {kw kw2 : List (Str × V)} {f : Addr} {fd fd2 : FuncData}
    (a : FunD K y qual ps body sc dv kw f fd) (b : FunD K y2 qual2 ps2 body2 sc2 dv2 kw2 f fd2) : fd = fd2 := by
  obtain ⟨_, _, _, _, _, _, _, _, _, _, _, la, _⟩ := a.ex
  obtain ⟨_, _, _, _, _, _, _, _, _, _, _, lb, _⟩ := b.ex
  have e := Option.some.inj (la.symm.trans lb)
  cases e
  rfl
end Rz

/-! The top's run, looked at in parts: each part is a theorem of its own, so that the kernel's memory serves a larger top. -/
namespace Rz
open PySem PySem.Spec PySem.W PyProof.Rows L2 He HandSHeadRun
section
variable {r : OpenRow} {q : Program} {M n : Nat} {loose : List PySem.Str} {w : World} {fa fb : List (Fg → Bool)} {fn gn : List Dq}
/-- the state behind the top -/
noncomputable abbrev endS (r : OpenRow) (M : Nat) (w : World) (os : OsState) : Option SharedT := endF (stepQ (denQ tabQ) r.prog w) M r.prog w os
def LkEq (r : OpenRow) (M : Nat) (w : World) : Prop := ∀ os : OsState, (endS r M w os).map (fun s => looksF r.prog (boot_heap w.params) s.abs) = some true
def SnEq (r : OpenRow) (q : Program) (M : Nat) (loose : List PySem.Str) (w : World) : Prop := ∀ os : OsState, (endS r M w os).map (fun s => seenQ q loose (importedModules r.prog.main.body) (fun s => xlAt q [] s && recOk r.toRowW.records s) s.abs) = some (openGood q loose)
def ObEq (r : OpenRow) (M n : Nat) (fa : List (Fg → Bool)) (fn : List Dq) (w : World) : Prop := ∀ os : OsState, (endS r M w os).map (fun s => obsRG n fa fn (getT s)) = some (valR fn)
theorem obsR_app {K : Fg} (h1 : obsR fa fn K = valR fn) (h2 : obsR fb gn K = valR gn) : obsR (fa ++ fb) (fn ++ gn) K = valR (fn ++ gn) := by
  have a1 := ba (show ((fa.all fun f => f K) && fn.all fun d => d.ok K) = true from congrArg Prod.fst h1)
  have a2 := ba (show ((fb.all fun f => f K) && gn.all fun d => d.ok K) = true from congrArg Prod.fst h2)
  have b1 : fn.map (fun d => fnQ K (d.at_ K)) = fn.map Dq.val := congrArg Prod.snd h1
  have b2 : gn.map (fun d => fnQ K (d.at_ K)) = gn.map Dq.val := congrArg Prod.snd h2
  unfold obsR valR
  rw [List.all_append, List.all_append, a1.1, a1.2, a2.1, a2.2, List.map_append, List.map_append, b1, b2]
  rfl
/-- the look with its value written out: `List.map` on both sides would make the kernel compare the two functions first, at a great cost -/
def ObEqV (r : OpenRow) (M n : Nat) (fa : List (Fg → Bool)) (fn : List Dq) (v : AlR) (w : World) : Prop := ∀ os : OsState, (endS r M w os).map (fun s => obsRG n fa fn (getT s)) = some v
theorem ObEqV.to {v : AlR} (h : ObEqV r M n fa fn v w) (e : v = valR fn) : ObEq r M n fa fn w := by subst e; exact h
theorem some_of {α β : Type} {o : Option α} {f : α → β} {b : β} (h : o.map f = some b) : ∃ s, o = some s ∧ f s = b := Option.map_eq_some_iff.mp h
theorem ObEq.app (a : ObEq r M n fa fn w) (b : ObEq r M n fb gn w) : ObEq r M n (fa ++ fb) (fn ++ gn) w := fun os => by
  obtain ⟨s, e, h⟩ := some_of (a os)
  obtain ⟨s2, e2, h2⟩ := some_of (b os)
  rw [e] at e2
  cases e2
  rw [e]
  exact congrArg some (obsR_app h h2)
theorem run_all (l : LkEq r M w) (c : SnEq r q M loose w) (o : ObEq r M n fa fn w) : RunEq r q (hookR n fa fn) (fun s => obsRG n fa fn (getT s)) M loose w := fun os => by
  obtain ⟨s, e, h⟩ := some_of (l os)
  obtain ⟨s2, e2, h2⟩ := some_of (c os)
  obtain ⟨s3, e3, h3⟩ := some_of (o os)
  rw [e] at e2 e3
  cases e2
  cases e3
  show (endS r M w os).map _ = _
  rw [e]
  exact congrArg some (Prod.ext h (Prod.ext h2 h3))
end
end Rz

/-! Defs with a star parameter, classmethods, calls with a starred list. -/
namespace L2
open PySem PySem.Spec PyProof.Rows StX ClX
/-- a def with n parameters and a star parameter behind them, called by positional values -/
def spStar (n : Nat) (sp : Sp) : Sp := fun vs H Q E => ∃ ws rest, vs = ws ++ rest ∧ ws.length = n ∧ rest.length ≤ sizeLine ∧ ∀ p, H p = none → sp (ws ++ [.ref p]) (upd H p (.tup rest)) Q E
section
variable {P : Program} {w : World} {mg : Str → Option Value} {base : Heap} {K : PySem.W.Frag} {x qual : Str} {params : Arguments} {body : List Stmt} {scope : Scope} {f : Addr} {fd : FuncData} {ps : List Str}
theorem FunD.okStar {CX : CXT} {N : List Str} {pv : Str} {k : Nat} {sp : Sp} (F : FunD K x qual params body scope [] [] f fd) (S : FnScope N (ps ++ [pv]) scope) (hCX : CXUp CX)
    (hb : ∀ (kV doc pm : Value) (an : Option Addr) (cdv ct : Value) (us rest : List Value), us.length = ps.length → bindArgs (PySem.W.fnOf x qual params body scope .none kV doc pm an cdv ct) ⟨us ++ rest, []⟩ = (newTuple rest >>= fun t => pure (ps.zip us ++ [(pv, t)])))
    (hbody : ∀ (cdv : Value) (A : Around) (outer : List Env) (s : Shared) (H : Hp) (vs : List V) (Q : VK) (E : XK), Room k (A.deeper (envOfC qual scope s.heap.objs.size f cdv)) → sp vs H Q E →
      ∃ t, PSs (cxOf CX P w K mg base N qual scope f cdv A outer s H E) body t ∧ t { nx := fun _ H' => Q .non H', rt := Q } (start N vs) H) : FnR P w K mg base CX (k + 1) f (spStar ps.length sp) := by
  obtain ⟨oc, od, dV, kV, doc, pm, an, cdv, ct, osl, rfl, lk, hcd, hD, _⟩ := F.ex
  rcases hD with ⟨_, rfl⟩ | ⟨e, _⟩
  · exact fn_star lk hcd S hCX (hb kV doc pm an cdv ct) fun A outer s H vs Q E hr hsp => hbody cdv A outer s H vs Q E hr hsp
  · exact absurd rfl e
end
section
variable {X : Cx} {CX : CXT} {k : Nat} {f C g p : Addr} {mc : Value} {sp : Sp} {E : St → XK} {x m : Str} {np pos apos sp_ : Pos} {e o fe : Expr} {es : List Expr} {ta te : TE} {t : TA}
theorem run_fnRS {pins : List (Addr × Obj)} {σ : St} {H : Hp} {s : Shared} {Q : VK} {us : List Value} {vs : List V} (F : FnR X.prog X.w X.K X.mg X.base CX k f sp) (hr : Room k X.A) (hx : PassesAt CX X σ (E σ)) (I : Inv X pins σ H s) (r : Vals vs us) (h : sp vs H Q (E σ)) :
    codeAny (model X.prog X.w) X.A (.call (.ref f) ⟨us, []⟩) (fun r s' => match r with | .ok (.ret v) => EP X pins σ Q v s' | .ok _ => False | .error e => X.xe e s') s := by
  refine codeAny_mono (F X.A X.stack s H us vs Q (E σ) hr I.env0 r h) fun r s' hq => ?_
  match r, hq with
  | .error e, hq => exact hx pins H s e s' I hq
  | .ok (.ret u), hq => exact I.after hq
  | .ok .next, hq => exact hq.elim
  | .ok .brk, hq => exact hq.elim
  | .ok .cont, hq => exact hq.elim
theorem run_makeRS {pins : List (Addr × Obj)} {σ : St} {H : Hp} {s : Shared} {Q : VK} {us : List Value} {vs : List V} (M : Mk X.K C f) (F : FnR X.prog X.w X.K X.mg X.base CX k f sp) (hr : Room (k + 1) X.A) (hx : PassesAt CX X σ (E σ)) (I : Inv X pins σ H s) (r : Vals vs us)
    (h : ∀ y dx, H y = none → H dx = none → dx ≠ y → sp (.ref y :: (vs ++ [])) (upd (upd H dx (.own y)) y (.ins C dx [])) (fun v H2 => v = .non ∧ Q (.ref y) H2) (E σ)) :
    wpAny (model X.prog X.w) X.A (call (.ref C) us) (EP X pins σ Q) X.xe s := by
  have hq := h (s.heap.objs.size + 1) s.heap.objs.size (I.hok.fresh (Nat.le_succ _)) (I.hok.fresh (Nat.le_refl _)) (Nat.ne_of_lt (Nat.lt_succ_self _))
  rw [List.append_nil] at hq
  have I2 := Inv.made (C := C) I
  have r2 : Vals (V.ref (s.heap.objs.size + 1) :: vs) (Value.ref (s.heap.objs.size + 1) :: us) := .cons rfl r
  refine wpAny_call (make_map (f := f) I.kIn M.makes M.init (beq_iff_eq.mp M.fn) (codeAny_mono (F _ X.stack _ _ (Value.ref (s.heap.objs.size + 1) :: us) _ _ (E σ) (hr.make C us []) (I2.env0.make C us []) r2 hq) fun r s' hq' => ?_))
  match r, hq' with
  | .error e, hq' => exact hx pins _ _ e s' I2 hq'
  | .ok (.ret u), hq' =>
    obtain ⟨v, H', I3, rv, ev, q3⟩ := I2.after hq'
    subst ev
    exact ⟨rv, ⟨V.ref (s.heap.objs.size + 1), H', I3, rfl, q3⟩⟩
  | .ok .next, hq' => exact hq'.elim
  | .ok .brk, hq' => exact hq'.elim
  | .ok .cont, hq' => exact hq'.elim
/-- C(e, ..), __init__ with a star parameter -/
theorem pe_makeRS (M : Mk X.K C f) (F : FnR X.prog X.w X.K X.mg X.base CX k f sp) (hr : Room (k + 1) X.A) (hg : Gl X x) (hm : X.mg x = some (.ref C)) (hx : ∀ σ, PassesAt CX X σ (E σ))
    (ha : PA X (e :: es) t) (hdb : (x == ("__debug__" : Str)) = false := by decide) (he : starEach (e :: es) X.env = (false, eval e X.env) :: starEach es X.env := by rfl) (hpl : (backTo pos (starEach es X.env)).any (·.1) = false := by rfl) :
    PE X (.Call (.Name x np) (e :: es) [] pos) (tMakeS C sp [] E t) := by
  constructor
  intro pins s σ H Q I h
  refine wpAny_Call_Name_kw (ld_glob I hg hm (PySem.W.callWith_K (h₀ := X.base) I.ok.mod.kin M.kp (thn (ha.run pos pins s σ H _ I h) ?_) he hpl) hdb)
  rintro us s1 ⟨vs, H1, I1, r, q⟩
  exact ⟨I1.kIn, run_makeRS M F hr (hx σ) I1 r q⟩
theorem pe_make0RS (M : Mk X.K C f) (F : FnR X.prog X.w X.K X.mg X.base CX k f sp) (hr : Room (k + 1) X.A) (hg : Gl X x) (hm : X.mg x = some (.ref C)) (hx : ∀ σ, PassesAt CX X σ (E σ))
    (hdb : (x == ("__debug__" : Str)) = false := by decide) : PE X (.Call (.Name x np) [] [] pos) (tMakeS C sp [] E tNil) :=
  ⟨fun _ _ σ _ _ I h => wpAny_Call_Name_kw (ld_glob I hg hm (PySem.W.callWith_K0 I.kIn M.kp (run_makeRS (us := []) M F hr (hx σ) I .nil h)) hdb)⟩
/-- cls(*xs), cls a variable that holds the class at C -/
def tMakeSt (K : PySem.W.Frag) (C : Addr) (sp : Sp) (E : St → XK) (ta te : TE) : TE := fun σ H Q => ta σ H fun y H1 => y = .ref C ∧ te σ H1 fun z H2 => ∃ a xs, z = .ref a ∧ (SqT K H2 a xs ∨ SqL K H2 a xs) ∧ tMakeS C sp [] E (fun _ H' Q' => Q' xs H') σ H2 Q
theorem pe_makeSt (hf : PE X fe ta) (M : Mk X.K C f) (F : FnR X.prog X.w X.K X.mg X.base CX k f sp) (hr : Room (k + 1) X.A) (hx : ∀ σ, PassesAt CX X σ (E σ)) (he : PE X e te)
    (ht : eval (.Call fe [.Starred e sp_] [] pos) X.env = (do callWith pos (← eval fe X.env) [] (backTo pos (starEach [.Starred e sp_] X.env)) (backToKw pos (keywordEach [] X.env))) := by rfl)
    (hst : starEach [.Starred e sp_] X.env = [(true, eval e X.env)] := by rfl) : PE X (.Call fe [.Starred e sp_] [] pos) (tMakeSt X.K C sp E ta te) := by
  refine ⟨fun pins s σ H Q I h => ?_⟩
  refine Call_ (thn (hf.run pins s σ H _ I h) ?_) ht
  rintro u s1 ⟨y, H1, I1, ry, rfl, q⟩
  cases ry
  refine PySem.W.callWith_S (h₀ := X.base) I1.ok.mod.kin M.kp (thn (he.run pins s1 σ H1 _ I1 q) ?_) hst
  rintro v s2 ⟨z, H2, I2, rz, a, xs, rfl, hxs, q2⟩
  cases rz
  exact star_any I2 hxs fun us s3 I3 rv => ⟨I3.kIn, run_makeRS M F hr (hx σ) I3 rv q2⟩
/-- C.m(e, ..), m a classmethod -/
def tCMS (C : Addr) (sp : Sp) (E : St → XK) (ta : TE) (t : TA) : TE := fun σ H Q => ta σ H fun x H1 => x = .ref C ∧ t σ H1 fun vs H2 => sp (.ref C :: vs) H2 Q (E σ)
theorem run_cmS {pins : List (Addr × Obj)} {σ : St} {H : Hp} {s : Shared} {q : Addr} {Q : VK} {us : List Value} {vs : List V} (F : FnR X.prog X.w X.K X.mg X.base CX k g sp) (hr : Room k X.A) (hx : PassesAt CX X σ (E σ)) (I : Inv X ((q, PySem.W.methodObj (.ref g) (.ref C)) :: pins) σ H s)
    (r : Vals vs us) (h : sp (.ref C :: vs) H Q (E σ)) : wpAny (model X.prog X.w) X.A (call (.ref q) us) (EP X pins σ Q) X.xe s := by
  have z : wpAny (model X.prog X.w) X.A (call (.ref q) us) (EP X ((q, PySem.W.methodObj (.ref g) (.ref C)) :: pins) σ Q) X.xe s :=
    wpAny_call (PySem.W.method_call (ClX.pin_at I) (run_fnRS (us := .ref C :: us) (vs := .ref C :: vs) F hr hx I (.cons rfl r) h))
  exact thn z fun _ _ y => ClX.unpinE y
theorem _root_.L2.FnOk.rawN {P : Program} {w : World} {K : PySem.W.Frag} {mg : Str → Option Value} {base : Heap} {fd : FuncData} {ps : List Str} (F : FnOk P w K mg base CX k f fd ps sp) (hb : Binds K fd ps []) : FnR P w K mg base CX k f sp :=
  (F.raw hb .nil).imp fun vs H Q E h => by rw [List.append_nil]; exact h
/-- what of the text a class and a classmethod of it must have -/
def CmC (K : PySem.W.Frag) (C : Addr) (m : Str) (p g : Addr) : Prop := ∃ mc, ClX.CRead K C mc ∧ ClX.CMet K C mc m p g
theorem pe_cmS {pl : Sem Bool} (he : PE X o ta) (c : CmC X.K C m p g) (F : FnR X.prog X.w X.K X.mg X.base CX k g sp) (hr : Room k X.A) (hx : ∀ σ, PassesAt CX X σ (E σ)) (ha : PA X (e :: es) t)
    (hst : starEach (e :: es) X.env = (false, eval e X.env) :: starEach es X.env := by rfl) (hpl : (backTo pos (starEach es X.env)).any (·.1) = false := by rfl)
    (ht : eval (.Call (.Attribute o m apos) (e :: es) [] pos) X.env = (do
      let ov ← eval o X.env
      standAt apos.atName
      let (f, first) ← holding [ov] (getMethod ov m pl)
      callWith pos f first (backTo pos (starEach (e :: es) X.env)) (backToKw pos (keywordEach [] X.env))) := by rfl) :
    PE X (.Call (.Attribute o m apos) (e :: es) [] pos) (tCMS C sp E ta t) := by
  obtain ⟨mc, r, c⟩ := c
  refine ⟨fun pins s σ H Q I h => ?_⟩
  refine PySem.W.methodCall_KW (pl := pl) (thn (he.run pins s σ H _ I h) fun u s1 ⟨x, H1, I1, rx, ex, q⟩ => ?_) ht
  subst ex
  obtain rfl : u = Value.ref C := rx
  refine ClX.getmethcm_ok I1 r c fun s2 I2 => ?_
  refine ClX.callwith_cm I2 (base_none I1 (Nat.le_refl _)) c.fi (thn (ha.run pos _ s2 σ H1 _ I2 q) fun us s3 ⟨vs, H2, I3, rv, q2⟩ => ⟨⟨ClX.pin_at I3, I3.kIn⟩, ?_⟩) hst hpl
  exact run_cmS F hr (hx σ) I3 rv q2
end
end L2
namespace Rz
open PySem PySem.Spec PyProof.Rows L2 He
def cmB (C m : Str) : Fg → Bool := fun K => PySem.W.readsIn K (ga K C) (.type "type") && (eqO (PySem.W.specialIn K (.ref (ga K C)) "__getattribute__") (some (some (.builtin "type.__getattribute__"))) &&
  ((match PySem.W.findCls K (.ref (ga K C)) (.type "type") m with
    | some (.get a b c d) => decide (a = .builtin "classmethod.__get__") && (decide (b = .ref (recAt C m K)) && (decide (c = .none) && decide (d = .ref (ga K C))))
    | _ => false) && (firstB "classmethod" (recAt C m K) K && PySem.W.fnIn K (pC C m K))))
theorem cmB_ok {C m : Str} {K : Fg} (h : cmB C m K = true) : CmC K (ga K C) m (recAt C m K) (pC C m K) := by
  obtain ⟨h1, h⟩ := ba h
  obtain ⟨h2, h⟩ := ba h
  obtain ⟨h3, h⟩ := ba h
  obtain ⟨h4, h5⟩ := ba h
  refine ⟨.type "type", ⟨h1, eqO_ok h2⟩, ⟨?_, firstB_ok h4, h5⟩⟩
  cases e : PySem.W.findCls K (.ref (ga K C)) (.type "type") m with
  | none => rw [e] at h3; cases h3
  | some r =>
    rw [e] at h3
    cases r with
    | get a b c d =>
      obtain ⟨a1, h3⟩ := ba h3
      obtain ⟨a2, h3⟩ := ba h3
      obtain ⟨a3, a4⟩ := ba h3
      rw [of_decide_eq_true a1, of_decide_eq_true a2, of_decide_eq_true a3, of_decide_eq_true a4]
    | _ => cases h3
end Rz

/-! cls(e, ..): an instance made through a variable that holds the class -/
namespace L2
open PySem PySem.Spec PyProof.Rows
section
variable {X : Cx} {CX : CXT} {k : Nat} {f C : Addr} {sp : Sp} {E : St → XK} {fd : FuncData} {ps : List Str} {ds : List Value} {dvs : List V} {pos : Pos} {e fe : Expr} {es : List Expr} {ta : TE} {t : TA}
/-- cls(e, ..) -/
def tMakeV (C : Addr) (sp : Sp) (dvs : List V) (E : St → XK) (ta : TE) (t : TA) : TE := fun σ H Q => ta σ H fun y H1 => y = .ref C ∧ tMakeS C sp dvs E t σ H1 Q
theorem pe_makeV (hf : PE X fe ta) (M : Mk X.K C f) (F : FnOk X.prog X.w X.K X.mg X.base CX k f fd ps sp) (hr : Room (k + 1) X.A) (hb : Binds X.K fd ps ds) (hd : Vals dvs ds) (hx : ∀ σ, PassesAt CX X σ (E σ)) (ha : PA X (e :: es) t)
    (ht : eval (.Call fe (e :: es) [] pos) X.env = (do callWith pos (← eval fe X.env) [] (backTo pos (starEach (e :: es) X.env)) (backToKw pos (keywordEach [] X.env))) := by rfl)
    (he : starEach (e :: es) X.env = (false, eval e X.env) :: starEach es X.env := by rfl) (hpl : (backTo pos (starEach es X.env)).any (·.1) = false := by rfl) : PE X (.Call fe (e :: es) [] pos) (tMakeV C sp dvs E ta t) := by
  refine ⟨fun pins s σ H Q I h => ?_⟩
  refine Call_ (thn (hf.run pins s σ H _ I h) ?_) ht
  rintro u s1 ⟨y, H1, I1, ry, rfl, q⟩
  cases ry
  refine PySem.W.callWith_K (h₀ := X.base) I1.ok.mod.kin M.kp (thn (ha.run pos pins s1 σ H1 _ I1 q) ?_) he hpl
  rintro us s2 ⟨vs, H2, I2, r, q2⟩
  exact ⟨I2.kIn, run_makeS M F hr hb hd (hx σ) I2 r q2⟩
end
end L2

/-! split; x op= y by an own method that may raise; a walk over an instance whose __iter__ gives a list's iterator. -/
namespace L2
open PySem PySem.Spec PyProof.Rows
/-- a statement that is never reached -/
def tDeadS : TS := fun _ _ _ => False
theorem ps_deadS {X : Cx} {st : Stmt} : PS X st tDeadS := ⟨fun _ _ _ _ _ _ h => False.elim h⟩
/-- x.split(sep) -/
def rSplitS : V → List V → Hp → VK → Prop := fun x xs H Q => ∃ a b, x = .str a ∧ xs = [.str b] ∧ (b.length == 0) = false ∧ a.length + 2 ≤ sizeLine ∧ rNewStrs (Txt.split a b) H Q
def tSplit (to te : TE) : TE := tM1 rSplitS to te
theorem pe_splitS {X : Cx} {o e : Expr} {to te : TE} {apos pos : Pos} (ho : PE X o to) (he : PE X e te) (hs : starEach [e] X.env = [(false, eval e X.env)] := by rfl)
    (hbase : attributeBase o "split" X.env (eval o X.env) = eval o X.env := by rfl) (hline : (apos.endLine == pos.line) = true := by rfl) : PE X (.Call (.Attribute o "split" apos) [e] [] pos) (tSplit to te) :=
  pe_m1 PySem.F.slot_str_split PySem.F.type_str_split mt_split ho he hs hbase hline
section
variable {X : Cx} {CX : CXT} {k : Nat} {f C : Addr} {fd : FuncData} {ps : List Str} {sp : Sp}
/-- x op= e, x a variable that holds an instance with its own method -/
def tAugO (i : Nat) (te : TE) (C : Addr) (sp : Sp) (E : St → XK) : TS := fun D σ H => ∃ x, σ[i]? = some (some x) ∧ te σ H fun y H1 => rIpO C sp (E σ) x y H1 fun z H2 => D.nx (σ.set i (some z)) H2
theorem ps_augO {i : Nat} {x : Str} {e : Expr} {te : TE} {op : Operator} {E : St → XK} {pos' pos : Pos} (hN : X.N.Nodup) (hi : X.N[i]? = some x) (hx : Loc X.env.scope x) (he : PE X e te)
    (m : Meth X.K C (PySem.dunderI op.info.2) f) (c : OpC X.K C) (F : FnOk X.prog X.w X.K X.mg X.base CX k f fd ps sp) (hr : Room k X.A) (hb : Binds X.K fd ps []) (hE : ∀ σ, PassesAt CX X σ (E σ))
    (hf : X.fn x = true ∨ X.env.scope.names.lookup x = some .local := by first | exact .inl rfl | exact .inr rfl | assumption) :
    PS X (.AugAssign (.Name x pos') op e pos) (tAugO i te C sp E) := by
  refine ⟨fun pins s σ H D I h => ?_⟩
  obtain ⟨v, e1, h⟩ := h
  obtain ⟨m0, hn, hl⟩ := I.loc
  have vis : Vis X.env.scope x := by rcases hx with k | k; exact .inl k; exact .inr (.inl k)
  obtain ⟨u, r, l⟩ := hl i x v hi e1 vis
  refine wpAny_AugAssign_Name ?_
  have go : wpAny (model X.prog X.w) X.A (eval e X.env) (fun w s₂ => wpAny (model X.prog X.w) X.A (inplaceOp op u w) (fun r s₃ => wpAny (model X.prog X.w) X.A (storeName X.env x r) (fun _ => SP X pins D .next) X.xe s₃) X.xe s₂) X.xe s := by
    refine thn (he.run pins s σ H _ I h) fun w s1 ⟨y, H1, I1, r1, q1⟩ => ?_
    have key : wpAny (model X.prog X.w) X.A (inplaceOp op u w) (EP X pins σ (fun z H2 => D.nx (σ.set i (some z)) H2)) X.xe s1 := by
      obtain ⟨a, dx, fs, rfl, ea, q⟩ := q1
      cases r
      obtain ⟨od, J⟩ := I1.instAt ea
      obtain ⟨m1, hF⟩ := I1.fr
      exact PySem.W.ksp_inplace hF I1.ok.mod.kin J c.first m.at_ m.fn (thn (run_two F hr rfl hb (hE σ) I1 r1 q) fun _ _ z => z.back)
    refine thn key fun z s2 ⟨zv, H2, I2, r2, q2⟩ => ?_
    exact store_ok I2 hN hi hx r2 (fun s3 I3 => ⟨_, H2, I3, q2⟩) hf
  rcases l with ⟨hk, hm⟩ | ⟨hk, c, hc, hcell⟩
  · exact wpAny_loadName_local I.ok.kind hk hn hm go
  · rcases hk with hk | hk
    · exact wpAny_loadName_cell I.ok.kind hk hc hcell go
    · rcases hx with k | k
      · have : X.env.scope.names.lookup x = some .free := hk
        rw [k] at this; cases this
      · have : X.env.scope.names.lookup x = some .free := hk
        rw [k] at this; cases this
def ipMul : TIp := fun x y H Q => ∃ i j, x = .int i ∧ y = .int j ∧ CMul i j ∧ Q (.int (i * j)) H
theorem ip_mul : PIp X .Mult ipMul := by
  intro pins s σ H x y v u Q I r1 r2 h
  obtain ⟨i, j, e1, e2, hc, q⟩ := h
  subst e1; subst e2
  obtain ⟨t, rfl⟩ := r1
  obtain ⟨t', rfl⟩ := r2
  exact imul_int ⟨.int _, H, I.tok _, ⟨_, rfl⟩, q⟩ hc.ok
def rSumA (K : PySem.W.Frag) : List V → Hp → VK → Prop := rSum K
theorem c_sum (hc : X.calm = true) : CallR X (.builtin "sum") (rSumA X.K) := cr_sum hc
/-! ### an object that is no longer spoken of -/
def dropH (H : Hp) (it : Addr) : Hp := fun b => if b = it then none else H b
theorem dropH_at {H : Hp} {it : Addr} : dropH H it it = none := if_pos rfl
theorem dropH_ne {H : Hp} {it b : Addr} (h : b ≠ it) : dropH H it b = H b := if_neg h
theorem dropH_none {H : Hp} {it b : Addr} (h : H b = none) : dropH H it b = none := by unfold dropH; split <;> trivial
theorem dropH_upd {H : Hp} {it : Addr} {o : HO} (h : H it = none) : dropH (upd H it o) it = H := by
  funext b
  unfold dropH
  by_cases e : b = it
  · rw [if_pos e, e, h]
  · rw [if_neg e, upd_ne e]
theorem dropH_some {H : Hp} {it b : Addr} {o : HO} {φ : Heap → Prop} (ei : H it = some (.ext φ)) (e : H b = some o) (n : ∀ ψ, o ≠ .ext ψ) : dropH H it b = some o := by
  rw [dropH_ne (fun z => by rw [z, ei] at e; exact n φ (Option.some.inj e).symm)]
  exact e
theorem objOk_drop {P : Program} {w : World} {H : Hp} {h : Heap} {it b : Addr} {φ : Heap → Prop} (ei : H it = some (.ext φ)) : ∀ o : HO, ObjOk P w H h b o → ObjOk P w (dropH H it) h b o
  | .lst _, x => x
  | .tup _, x => x
  | .dK _, x => x
  | .dT _, ⟨a, c, xs, p, r⟩ => ⟨a, c, xs, Paired.mono (fun _ _ ⟨h1, h2, h3⟩ => ⟨h1, dropH_some ei h2 (fun _ z => nomatch z), h3⟩) p, r⟩
  | .set _ _, x => x
  | .ins _ _ _, ⟨a, r⟩ => ⟨dropH_some ei a (fun _ z => nomatch z), r⟩
  | .own _, x => x
  | .xd _, x => x
  | .met _ _, x => x
  | .rng _ _, x => x
  | .frz _ u, ⟨a, r⟩ => ⟨a, objOk_drop ei u r⟩
  | .tbl _, x => x
  | .ext _, x => x
variable {pins : List (Addr × Obj)} {σ : St} {H : Hp} {s : Shared}
theorem Inv.dropped {it : Addr} {φ : Heap → Prop} (I : Inv X pins σ H s) (ei : H it = some (.ext φ)) : Inv X pins σ (dropH H it) s where
  ok := I.ok
  os := I.os
  bare := I.bare
  base := ⟨I.base.keep, I.base.slot, fun b o q n hx => dropH_none (I.base.free b o q n hx), I.base.there, fun b xs q => dropH_some ei (I.base.tups b xs q) (fun _ z => nomatch z), fun b o u q => dropH_some ei (I.base.frzs b o u q) (fun _ z => nomatch z),
    fun b ps q => let ⟨m, e⟩ := I.base.tbls b ps q; ⟨m, dropH_some ei e (fun _ z => nomatch z)⟩⟩
  loc := I.loc
  cell := I.cell
  free := dropH_none I.free
  freeC := fun x c e => dropH_none (I.freeC x c e)
  pin := fun p hp => let ⟨a, b, c⟩ := I.pin p hp; ⟨a, dropH_none b, c⟩
  hok := fun b o e => by
    by_cases z : b = it
    · rw [z, dropH_at] at e; cases e
    · rw [dropH_ne z] at e
      exact objOk_drop ei o (I.hok b o e)
  len := I.len
/-- a def of one argument runs within a built-in; what it puts where nothing was known is new -/
theorem run_oneN {A' : Around} {a : Addr} {Q : VK} {E : XK} (F : FnOk X.prog X.w X.K X.mg X.base CX k f fd ps sp) (hr : Room k A') (hfr : A'.frames = X.A.frames) (hb : Binds X.K fd ps []) (hx : PassesAt CX X σ E) (I : Inv X pins σ H s) (h : sp [.ref a] H Q E) :
    wpAny (model X.prog X.w) A' (call (.ref f) [.ref a]) (EP X pins σ fun v H' => (∀ b, H b = none → H' b ≠ none → s.heap.get? b = none) ∧ Q v H') X.xe s := by
  have e0 := I.env0
  have e1 : Env0 X.prog X.w X.K X.mg X.base A' X.stack s H := ⟨hfr.trans e0.frames, e0.mod, e0.bs, e0.bsz, e0.funs, e0.frf, e0.hok, e0.bare⟩
  have rr : Vals [V.ref a] [Value.ref a] := .cons rfl .nil
  refine wpAny_call (codeAny_mono (F.run A' X.stack s H ⟨[.ref a], []⟩ [.ref a] [.ref a] Q E hr e1 (by simpa using hb s [.ref a] I.kIn (by have := F.len _ _ _ _ h; simpa using this)) rr h) ?_)
  intro res s' hq
  match res, hq with
  | .error e, hq => exact hx pins H s e s' I hq
  | .ok (.ret u), hq =>
    obtain ⟨v, H', os, bare, un, hok, r, q⟩ := hq
    refine I.after ⟨v, H', os, bare, un, hok, r, fun b n1 n2 => ?_, q⟩
    cases e : s.heap.get? b with
    | none => rfl
    | some o => exact absurd (un.free b o e n1 (by simp)) n2
  | .ok .next, hq => exact hq.elim
  | .ok .brk, hq => exact hq.elim
  | .ok .cont, hq => exact hq.elim
end
/-! ### the addresses that were freed when the frame began -/
def freed (h : Heap) : List Addr := (List.range h.objs.size).filter fun b => (h.get? b).isNone
theorem mem_freed {h : Heap} {b : Addr} : b ∈ freed h ↔ b < h.objs.size ∧ h.get? b = none := by
  unfold freed
  rw [List.mem_filter, List.mem_range, Option.isNone_iff_eq_none]
def Cx.yg (X : Cx) : Cx := { X with ex := X.ex ++ freed X.s_0.heap }
section
variable {X : Cx} {CX : CXT} {k : Nat} {f C : Addr} {fd : FuncData} {ps : List Str} {sp : Sp} {pins : List (Addr × Obj)} {σ : St} {H : Hp} {s : Shared}
theorem Cx.Ok.yg (ok : X.Ok) (hc : X.env.cells = []) : X.yg.Ok where
  mod := ok.mod
  kind := ok.kind
  glob := ok.glob
  blt := ok.blt
  above := ok.above
  inj := ok.inj
  has := ok.has
  cab := ok.cab
  hd := ok.hd
  frames := ok.frames
  stk := ok.stk
  exf := fun b hb => by
    refine ⟨fun z => ?_, fun x c e => ?_⟩
    · rcases List.mem_append.mp hb with h | h
      · exact (ok.exf b h).1 z
      · have h1 := (mem_freed.mp h).1
        have h2 : X.s_0.heap.objs.size ≤ X.env.locals := ok.above
        have h3 : b = X.env.locals := z
        rw [h3] at h1
        exact absurd h1 (Nat.not_lt.mpr h2)
    · have e' : X.env.cells.lookup x = some c := e
      rw [hc] at e'
      cases e'
  bs := ok.bs
  bsz := ok.bsz
  noex := fun b o e hb => by
    rcases List.mem_append.mp hb with h | h
    · exact ok.noex b o e h
    · have h1 := (ok.bs b o e).1
      rw [(mem_freed.mp h).2] at h1
      cases h1
  exfs := fun b hb hf => by
    rcases List.mem_append.mp hb with h | h
    · exact ok.exfs b h hf
    · obtain ⟨_, o, h1, _⟩ := ok.funs.mem hf
      rw [(mem_freed.mp h).2] at h1
      cases h1
  funs := ok.funs
  frf := ok.frf
theorem Inv.yg (hc : X.env.cells = []) (I : Inv X pins σ H s) : Inv X.yg pins σ H s where
  ok := I.ok.yg hc
  os := I.os
  bare := I.bare
  base := ⟨fun b o q n h1 h2 => I.base.keep b o q n h1 (fun z => h2 (List.mem_append_left _ z)), fun b o q n h1 h2 => I.base.slot b o q n h1 (fun z => h2 (List.mem_append_left _ z)), fun b o q n h => I.base.free b o q n (fun z => h (List.mem_append_left _ z)),
    fun b o q h => I.base.there b o q (fun z => h (List.mem_append_left _ z)), I.base.tups, I.base.frzs, I.base.tbls⟩
  loc := I.loc
  cell := I.cell
  free := I.free
  freeC := I.freeC
  pin := I.pin
  hok := I.hok
  len := I.len
theorem not_yg {b : Addr} {o : Obj} (q : X.s_0.heap.get? b = some o) (h : b ∉ X.ex) : b ∉ X.yg.ex := fun z => by
  rcases List.mem_append.mp z with z | z
  · exact h z
  · rw [(mem_freed.mp z).2] at q
    cases q
theorem Inv.unyg (ok : X.Ok) (I : Inv X.yg pins σ H s) : Inv X pins σ H s where
  ok := ok
  os := I.os
  bare := I.bare
  base := ⟨fun b o q n h1 h2 => I.base.keep b o q n h1 (not_yg q h2), fun b o q n h1 h2 => I.base.slot b o q n h1 (not_yg q h2), fun b o q n h => I.base.free b o q n (not_yg q h), fun b o q h => I.base.there b o q (not_yg q h), I.base.tups, I.base.frzs, I.base.tbls⟩
  loc := I.loc
  cell := I.cell
  free := I.free
  freeC := I.freeC
  pin := I.pin
  hok := I.hok
  len := I.len
theorem EP.unyg (ok : X.Ok) {Q : VK} {u : Value} (z : EP X.yg pins σ Q u s) : EP X pins σ Q u s := let ⟨v, H', I, r, q⟩ := z; ⟨v, H', I.unyg ok, r, q⟩
theorem PE.young {e : Expr} {te : TE} (hc : X.env.cells = []) (h : PE X.yg e te) : PE X e te := ⟨fun pins s σ H Q I q => thn (h.run pins s σ H Q (I.yg hc) q) fun _ _ z => z.unyg I.ok⟩
theorem SP.unyg (ok : X.Ok) {D : Ends} {fl : Flow} (z : SP X.yg pins D fl s) : SP X pins D fl s := by
  cases fl with
  | next => obtain ⟨σ', H', J, q⟩ := z; exact ⟨σ', H', J.unyg ok, q⟩
  | brk => obtain ⟨σ', H', J, q⟩ := z; exact ⟨σ', H', J.unyg ok, q⟩
  | cont => obtain ⟨σ', H', J, q⟩ := z; exact ⟨σ', H', J.unyg ok, q⟩
  | ret u => obtain ⟨v, σ', H', J, r, q⟩ := z; exact ⟨v, σ', H', J.unyg ok, r, q⟩
theorem PS.young {st : Stmt} {t : TS} (hc : X.env.cells = []) (h : PS X.yg st t) : PS X st t := ⟨fun pins s σ H D I q => wpAny_mono (h.run pins s σ H D (I.yg hc) q) (fun _ _ z => z.unyg I.ok) fun _ _ z => z⟩
theorem fpOk_young (hc : X.env.cells = []) {b : Addr} {H' : Hp} (I : Inv X.yg pins σ H s) (e : s.heap.get? b = none) (hn : H' b = none) : FpOk X.yg pins H' b := by
  refine ⟨hn, fun z => ?_, fun z => ?_, ?_, fun x c q z => ?_, fun p hp z => ?_⟩
  · obtain ⟨m, hN, _⟩ := I.loc
    obtain ⟨_, _, _, ho, _⟩ := hN
    have z' : b = X.env.locals := z
    rw [z'] at e
    have ho' : s.heap.get? X.env.locals = some _ := ho
    rw [e] at ho'
    cases ho'
  · have z' : b ∈ X.fs := z
    obtain ⟨_, o, h1, _⟩ := Cx.Ok.funs (X := X.yg) I.ok |>.mem z'
    have hx : b ∉ X.yg.ex := fun w => I.ok.exfs b w z
    obtain ⟨o', e'⟩ := I.base.there b o h1 hx
    rw [e] at e'
    cases e'
  · cases q : X.s_0.heap.get? b with
    | some o =>
      by_cases hx : b ∈ X.yg.ex
      · exact .inl hx
      · obtain ⟨o', e'⟩ := I.base.there b o q hx
        rw [e] at e'
        cases e'
    | none =>
      rcases Nat.lt_or_ge b X.s_0.heap.objs.size with lt | ge
      · exact .inl (List.mem_append_right _ (mem_freed.mpr ⟨lt, q⟩))
      · exact .inr ge
  · have q' : X.env.cells.lookup x = some c := q
    rw [hc] at q'
    cases q'
  · have := (I.pin p hp).1
    rw [z, e] at this
    cases this
/-- for .. in o: o's __iter__ gives a list's iterator -/
def iOwn (K : PySem.W.Frag) (C : Addr) (sp : Sp) (E : St → XK) (ta : TE) : TI := fun σ H R => ta σ H fun x H1 => ∃ a dx fs, x = .ref a ∧ H1 a = some (.ins C dx fs) ∧
  sp [.ref a] H1 (fun v H2 => ∃ l it, v = .ref it ∧ H1 it = none ∧ H2 it = some (ItO l it 0) ∧ (∃ xs, SqL K H2 l xs) ∧ R (Itl K l) (dropH H2 it)) (E σ)
theorem pi_own {tg e : Expr} {ta : TE} {E : St → XK} (hcl : X.env.cells = []) (m : Meth X.K C "__iter__" f) (F : FnOk X.prog X.w X.K X.mg X.base CX k f fd ps sp) (hr : Room (k + 1) X.A) (hb : Binds X.K fd ps []) (hx : ∀ σ, PassesAt CX X.yg σ (E σ)) (ha : PE X.yg e ta) :
    PI X.yg tg e (iOwn X.K C sp E ta) := by
  refine ⟨fun pins s σ H R I h => ?_⟩
  refine thn (ha.run pins s σ H _ I h) ?_
  rintro v s1 ⟨x, H1, I1, r1, a, dx, fs, rfl, ea, q⟩
  cases r1
  obtain ⟨od, J⟩ := I1.instAt ea
  obtain ⟨m0, hF⟩ := I1.fr
  refine PySem.W.owit_iter hF I1.ok.mod.kin J m.at_ m.fn ?_
  refine thn (run_oneN (X := X.yg) (E := E σ) F (hr.mono (Nat.le_succ k)) rfl hb (hx σ) I1 q) ?_
  rintro u s4 ⟨v, H4, I4, rv, new, l, it, rfl, n1, eit, ⟨xs, hxs⟩, q4⟩
  cases rv
  unfold PySem.W.OwitIt
  have ty4 : s4.TypeIs (.ref it) "list_iterator" := ⟨_, itO_get I4 eit, rfl⟩
  refine wpAny_specialOf ty4 slot_listiter_next.lookup ?_
  dsimp only
  refine ⟨it, [it], _, _, dropH H4 it, rfl, I4.dropped eit, turn_list l it, ⟨_, itO_get I4 eit, rfl, rfl⟩, fun b hb => ?_, q4⟩
  have eb : b = it := by simpa using hb
  rw [eb]
  exact fpOk_young hcl I1 (new it n1 (by rw [eit]; exact fun z => nomatch z)) dropH_at
/-- o.m(e, .., k = v, ..) -/
def tMethK (C : Addr) (m : Str) (n j : Nat) (sp : Sp) (gV : List V → List V → List V) (E : St → XK) (ta : TE) (t tk : TA) : TE := fun σ H Q => ta σ H fun y H1 => ∃ a dx fs, y = .ref a ∧ H1 a = some (.ins C dx fs) ∧ fs.lookup m = none ∧
  t σ H1 fun vs H2 => tk σ H2 fun zs H3 => vs.length = n ∧ zs.length = j ∧ sp (gV (y :: vs) zs) H3 Q (E σ)
theorem pe_methK {o e : Expr} {es : List Expr} {kws : List Keyword} {m : Str} {n : Nat} {ks : List Str} {g : List Value → List Value → List Value} {gV : List V → List V → List V} {E : St → XK} {apos pos : Pos} {ta : TE} {t tk : TA} {pl : Sem Bool} (he : PE X o ta) (c : Cls X.K C) (hm : Meth X.K C m f)
    (F : FnOk X.prog X.w X.K X.mg X.base CX k f fd ps sp) (hr : Room k X.A) (hb : KBn X.K fd ps (n + 1) ks g gV) (hx : ∀ σ, PassesAt CX X σ (E σ)) (ha : PA X (e :: es) t) (hkw : PK X kws tk)
    (hall : (backToKw pos (keywordEach kws X.env)).all (·.1.isSome) = true := by rfl) (hks : (backToKw pos (keywordEach kws X.env)).filterMap (·.1) = ks := by rfl)
    (hst : starEach (e :: es) X.env = (false, eval e X.env) :: starEach es X.env := by rfl) (hpl : ((backTo pos (starEach (e :: es) X.env)).any (·.1) || (backToKw pos (keywordEach kws X.env)).any (·.1.isNone)) = false := by rfl)
    (ht : eval (.Call (.Attribute o m apos) (e :: es) kws pos) X.env = (eval o X.env >>= fun ov => standAt apos.atName >>= fun _ => holding [ov] (getMethod ov m pl) >>= fun ff => callWith pos ff.1 ff.2 (backTo pos (starEach (e :: es) X.env)) (backToKw pos (keywordEach kws X.env))) := by rfl) :
    PE X (.Call (.Attribute o m apos) (e :: es) kws pos) (tMethK C m n ks.length sp gV E ta t tk) := by
  constructor
  intro pins s σ H Q I h
  refine PySem.W.methodCall_KW (pl := pl) (thn (he.run pins s σ H _ I h) ?_) ht
  rintro u s1 ⟨y, H1, I1, ry, a, dx, fs, rfl, ea, l, q⟩
  cases ry
  refine getmeth_ok I1 ea c hm l (PySem.W.callWith_KW (first := [.ref a]) (h₀ := X.base) I.ok.mod.kin hm.kp hall (thn (ha.run pos pins s1 σ H1 _ I1 q) ?_) hpl hst)
  rintro us s2 ⟨vs, H2, I2, r, q2⟩
  refine thn (hkw.run pos pins s2 σ H2 _ I2 q2) fun ws s3 ⟨zs, H3, I3, rz, l1, l2, q3⟩ => ⟨I3.kIn, ?_⟩
  rw [hks]
  exact wpAny_call (run_fnNS (us := .ref a :: us) (vs := .ref a :: vs) F hr hb (hx σ) I3 (.cons rfl r) rz (by rw [List.length_cons, l1]) l2 q3)
end
end L2

/-! x.replace("..."[i], y[j]): both arguments are new texts of one sign. -/
namespace L2
open PySem PySem.Spec PyProof.Rows
def tReplIx (to : TE) (a : Str) (ti tB tj : TE) : TE := fun σ H Q => to σ H fun v H1 => ∃ x, v = .str x ∧ ti σ H1 fun iv H2 => ∃ i c, iv = .int i ∧ a.length ≤ sizeLine ∧ atI a.cps.toList i = some c ∧ tB σ H2 fun bv H3 => tj σ H3 fun jv H4 =>
  ∃ b j d, bv = .str b ∧ jv = .int j ∧ b.length ≤ sizeLine ∧ atI b.cps.toList j = some d ∧ c ≠ d ∧ x.length ≤ 1000000 ∧ Q (.str (Txt.replace x ⟨#[c]⟩ ⟨#[d]⟩)) H4
theorem sub_str {X : Cx} {value slice : Expr} {z : Str} {t t' : Tok} {i : Int} {c : Nat} {s : Shared} {A : Around} {E : Value → Shared → Prop} {Q : Value → Shared → Prop} (hz : z.length ≤ sizeLine) (he : atI z.cps.toList i = some c)
    (hs : subscripted slice false (.str z t) (.int i t') = operate [.str z t, .int i t'] (getItem (.str z t) (.int i t'))) (q : Q (.str ⟨#[c]⟩ s.toks) { s with toks := s.toks + 1 }) :
    wpAny (model X.prog X.w) A (subscriptTail value slice (.str z t) (.int i t')) Q E s := by
  obtain ⟨j, h1, h2, h3, h4, h5⟩ := atI_get he
  have hl : z.cps.toList.length = z.length := by simp [Str.length]
  rw [hl] at h1 h4 h5
  have hn := line63
  exact tail_any (typeIs_str s z t) slot_str_getitem.lookup (getItem_str (c := c) (by
    have e1 : decide (i < -(2 ^ 63 : Int)) = false := decide_eq_false (by omega)
    have e2 : decide (i ≥ 2 ^ 63) = false := decide_eq_false (by omega)
    rw [e1, e2, Bool.or_false]) (by rw [h1]; simpa using h2) q) hs
section
variable {X : Cx} {o i B j : Expr} {to ti tB tj : TE} {a : Str} {k : Nat} {c0 p1 p2 apos pos : Pos}
theorem pe_replIx (ho : PE X o to) (hi : PE X i ti) (hB : PE X B tB) (hj : PE X j tj) (s1 : PlainIx i) (s2 : PlainIx j)
    (hst : starEach [.Subscript (.Constant (.str a) k c0) i p1, .Subscript B j p2] X.env = [(false, eval (.Subscript (.Constant (.str a) k c0) i p1) X.env), (false, eval (.Subscript B j p2) X.env)] := by rfl)
    (hbase : attributeBase o "replace" X.env (eval o X.env) = eval o X.env := by rfl) (hline : (apos.endLine == pos.line) = true := by rfl) :
    PE X (.Call (.Attribute o "replace" apos) [.Subscript (.Constant (.str a) k c0) i p1, .Subscript B j p2] [] pos) (tReplIx to a ti tB tj) := by
  refine ⟨fun pins s σ H Q I h => ?_⟩
  refine PySem.Call_method2 hbase hst hline (thn (ho.run pins s σ H _ I h) ?_)
  rintro v s1' ⟨v', H1, I1, r1, x, rfl, q⟩
  obtain ⟨tx, rfl⟩ := r1
  refine ⟨"str", _, PySem.F.plainAttrs_str, PySem.F.slot_str_replace, PySem.F.type_str_replace, typeIs_str _ _ _, (fun _ e => nomatch e), Calls.callWith_builtin rfl (Calls.evalArgs_plain (Calls.spliced_cons ?_))⟩
  refine Subscript_ (Calls.Constant_str (wpAny_mono (PySem.wpAny_toks (hi.run pins _ σ H1 _ (I1.tok _) q)) ?_ fun _ _ z => z.2))
  rintro u s2' ⟨k1, iv, H2, I2, ri, n, c, rfl, hz, hc, q2⟩
  obtain ⟨ti', rfl⟩ := ri
  have k1 : s1'.toks + 1 ≤ s2'.toks := k1
  refine sub_str (X := X) hz hc (s1 _ _) (Calls.spliced_cons (Subscript_ (wpAny_mono (PySem.wpAny_toks (hB.run pins _ σ H2 _ (I2.tok _) q2)) ?_ fun _ _ z => z.2)))
  rintro w3 s3' ⟨k2, bv, H3, I3, rb, q3⟩
  have k2 : s2'.toks + 1 ≤ s3'.toks := k2
  refine wpAny_mono (PySem.wpAny_toks (hj.run pins _ σ H3 _ I3 q3)) ?_ fun _ _ z => z.2
  rintro w4 s4' ⟨k3, jv, H4, I4, rj, b, m, d, rfl, rfl, hzb, hd, hne, hx, q4⟩
  obtain ⟨tb, rfl⟩ := rb
  obtain ⟨tj', rfl⟩ := rj
  refine sub_str (X := X) hzb hd (s2 _ _) (Calls.spliced_nil ?_)
  have hyz : ((⟨#[c]⟩ : Str) == ⟨#[d]⟩) = false := by
    apply beq_eq_false_iff_ne.mpr
    intro e
    have e2 := congrArg (fun y : Str => y.cps.toList) e
    simp at e2
    exact hne e2
  refine PySem.SC.replace (by show s2'.toks ≠ 0; omega) (by show s4'.toks ≠ 0; omega) (by show s2'.toks ≠ s4'.toks; omega) hyz ?_ fun t' k => ⟨.str (Txt.replace x ⟨#[c]⟩ ⟨#[d]⟩), H4, I4.tok k, ⟨t', rfl⟩, q4⟩
  show x.length + (x.length + 1) * 1 ≤ 16777216
  omega
end
end L2

/-! if and for in a generator's body. -/
namespace L2
open PySem PySem.Spec PyProof.Rows
section
variable {X : Cx}
def tGIf (tc : TT) (ta tb : TGn) : TGn := fun D ys σ H => tc σ H fun k H1 => if k = true then ta D ys σ H1 else tb D ys σ H1
theorem gs_if {c : Expr} {a b : List Stmt} {pos : Pos} {tc : TT} {ta tb : TGn} (hc : PT X c tc) (ha : GSs X a ta) (hb : GSs X b tb) : GS X (.If c a b pos) (tGIf tc ta tb) := by
  refine ⟨fun A S ip R n ys s₀ cd fs K J gd lv s σ H D g hn k hI ht => ?_⟩
  show Seg _ A R _ n s₀ cd (.at pos fun _ => ((isTrue c X.env (eval c X.env)) >>= fun b' => if b' = true then execs a X.env else execs b X.env).wrap K J gd lv) fs s
  refine seg_at ?_
  rw [Sem.bind_eq_wrap', Sem.wrap_wrap]
  refine seg_wrap ?_
  rw [g.over]
  obtain ⟨acc, cc, r, I⟩ := hI
  refine wpAny_mono (hc.run _ s σ H _ I ht) ?_ fun x s' hx => k.exc n s₀ x s' hx
  rintro b' s' ⟨H2, I2, q2⟩
  cases b' with
  | true =>
    rw [if_pos rfl] at q2
    exact ha.run A S ip R n ys s₀ cd fs K J gd lv s' σ H2 D g hn k ⟨acc, cc, r, I2⟩ q2
  | false =>
    rw [if_neg Bool.false_ne_true] at q2
    exact hb.run A S ip R n ys s₀ cd fs K J gd lv s' σ H2 D g hn k ⟨acc, cc, r, I2⟩ q2
end
section
variable {M : Model} {A : Around} {R : GenEnd} {Y : Protocol} {n : Nat} {s₀ : Shared} {c : Code} {fs : List Frame} {s : Shared} {env : Env} {K : Flow → Sem PySem.Fin} {H : Value → Sem PySem.Fin} {gd : Bool → Bool} {lv : List Value → List Value}
theorem seg_For {target iter : Expr} {body orelse : List Stmt} {pos : Pos} (hs : ∀ x, foldedSetIterable iter env x = pure x)
    (h : wpAny M (A.over c fs) (eval iter env) (fun v s1 => wpAny M (A.over c fs) (pyIter v) (fun it s2 => ∀ p, Seg M A R Y n s₀ (.forLoop target it body orelse env) (M.den (.forLoop target it body orelse env))
      (.ret (fun r => ((match r with | .ok f => (.pure f : Sem Flow) | .error e => .raise e).onRaise fun (x : Value) => do
        if (← field x 1) == Value.none then unsupported "frame.own-activation:exception-without-traceback"
        setFlight x env.frame).wrap K H gd lv) none (gd false) (lv []) c p [] :: fs) s2) (fun x s' => Seg M A R Y n s₀ c (H x) fs s') s1) (fun x s' => Seg M A R Y n s₀ c (H x) fs s') s) :
    Seg M A R Y n s₀ c ((exec (.For target iter body orelse pos) env).wrap K H gd lv) fs s := by
  show Seg M A R Y n s₀ c (.at pos fun _ => ((eval iter env) >>= fun v => (foldedSetIterable iter env v >>= fun x => (standAt iter.pos >>= fun _ => (holding [x] (pyIter x) >>= fun it => runOwn (.forLoop target it body orelse env) env)))).wrap K H gd lv) fs s
  refine seg_at ?_
  rw [Sem.bind_eq_wrap', Sem.wrap_wrap]
  refine seg_wrap (wpAny_mono h (fun v s1 h1 => ?_) fun _ _ x => x)
  rw [hs]
  show Seg M A R Y n s₀ c (.at iter.pos fun _ => (holding [v] (pyIter v) >>= fun it => runOwn (.forLoop target it body orelse env) env).wrap K H gd lv) fs s1
  refine seg_at ?_
  rw [Sem.bind_eq_wrap', Sem.wrap_wrap]
  refine seg_wrap (wpAny_mono (wpAny_holding h1) (fun it s2 h2 => ?_) fun _ _ x => x)
  exact seg_call h2
end
section
variable {prog : Program} {w : World} {A : Around} {R : GenEnd} {Y : Protocol} {n : Nat} {s₀ : Shared} {fs : List Frame} {s : Shared} {env : Env}
/-- what a loop's turn does with an exception -/
def errT (env : Env) (x : Value) : Sem PySem.Fin := (do noteFrame x env; theTreesLotGoes x : Sem Unit).wrap (fun _ => .raise x) .raise id id
def bodyK (target : Expr) (it : Value) (body : List Stmt) (env : Env) : Flow → Sem PySem.Fin := fun f => match f with
  | .next | .cont => .pure (.again (.forLoop target it body [] env))
  | .brk => .pure (.done .next)
  | .ret v => .pure (.done (.ret v))
def forG (target : Expr) (it : Value) (body : List Stmt) (env : Env) : Option Value → Sem PySem.Fin := fun r => match r with
  | none => again (.block [] env)
  | some v => letOwnedTupleGo target it v >>= fun _ => assign target env v >>= fun _ => execs body env >>= fun f => match f with
    | .next | .cont => again (.forLoop target it body [] env)
    | .brk => pure (.done .next)
    | .ret v => pure (.done (.ret v))
abbrev errB (env : Env) (e : Value) : Sem PySem.Fin := (do noteFrame e env; theTreesLotGoes e : Sem Unit).bind fun _ => .raise e
theorem errB_eq (env : Env) (e : Value) : errB env e = errT env e := Sem.bind_eq_wrap _ _
theorem seg_forLoop {target : Expr} {it : Value} {body : List Stmt}
    (h : wpAny (model prog w) (A.over (.forLoop target it body [] env) fs) (pyNext it) (fun r s1 => match r with
      | none => Seg (model prog w) A R Y n s₀ (.block [] env) (leafOf (.ok .next)) fs s1
      | some v => wpAny (model prog w) (A.over (.forLoop target it body [] env) fs) (letOwnedTupleGo target it v) (fun _ s2 => wpAny (model prog w) (A.over (.forLoop target it body [] env) fs) (assign target env v) (fun _ s3 =>
          Seg (model prog w) A R Y n s₀ (.forLoop target it body [] env) ((execs body env).wrap (bodyK target it body env) (errT env) id id) fs s3)
        (fun x s' => Seg (model prog w) A R Y n s₀ (.forLoop target it body [] env) (errT env x) fs s') s2) (fun x s' => Seg (model prog w) A R Y n s₀ (.forLoop target it body [] env) (errT env x) fs s') s1)
      (fun x s' => Seg (model prog w) A R Y n s₀ (.forLoop target it body [] env) (errT env x) fs s') s) :
    Seg (model prog w) A R Y n s₀ (.forLoop target it body [] env) ((model prog w).den (.forLoop target it body [] env)) fs s := by
  show Seg _ A R Y n s₀ _ ((forTurn target it body [] env).onRaise (fun x => do noteFrame x env; theTreesLotGoes x)) fs s
  unfold forTurn
  rw [Sem.onRaise_eq_wrap]
  refine seg_at ?_
  show Seg _ A R Y n s₀ _ ((((pyNext it).onRaise (fun _ => standAt { target.pos with line := 0 })) >>= (forG target it body env)).wrap .pure (errB env) id id) fs s
  rw [Sem.bind_eq_wrap', Sem.wrap_wrap]
  refine seg_wrap (wpAny_onRaise (wpAny_mono h (fun r s1 h1 => ?_) fun x s' hx => wpAny_standAt ?_))
  · cases r with
    | none => exact seg_again rfl h1
    | some v =>
      show Seg _ A R Y n s₀ _ ((letOwnedTupleGo target it v >>= fun _ => assign target env v >>= fun _ => execs body env >>= fun f => (match f with
        | .next | .cont => again (.forLoop target it body [] env)
        | .brk => pure (.done .next)
        | .ret v => pure (.done (.ret v)) : Sem PySem.Fin)).wrap .pure (errB env) id id) fs s1
      rw [Sem.bind_eq_wrap', Sem.wrap_wrap]
      refine seg_wrap (wpAny_mono h1 (fun _ s2 h2 => ?_) fun x s' hx => ?_)
      · rw [Sem.bind_eq_wrap', Sem.wrap_wrap]
        refine seg_wrap (wpAny_mono h2 (fun _ s3 h3 => ?_) fun x s' hx => ?_)
        · rw [Sem.bind_eq_wrap', Sem.wrap_wrap]
          have ee : ∀ {K1 K2 : Flow → Sem PySem.Fin} {H1 H2 : Value → Sem PySem.Fin}, K1 = K2 → H1 = H2 → Seg (model prog w) A R Y n s₀ (.forLoop target it body [] env) ((execs body env).wrap K2 H2 id id) fs s3 →
              Seg (model prog w) A R Y n s₀ (.forLoop target it body [] env) ((execs body env).wrap K1 H1 id id) fs s3 := by
            rintro _ _ _ _ rfl rfl h
            exact h
          exact ee (funext fun f => by cases f <;> rfl) (funext fun e => errB_eq env e) h3
        · show Seg _ A R Y n s₀ _ (errB env x) fs s'
          rw [errB_eq]
          exact hx
      · show Seg _ A R Y n s₀ _ (errB env x) fs s'
        rw [errB_eq]
        exact hx
  · show Seg _ A R Y n s₀ _ (errB env x) fs s'
    rw [errB_eq]
    exact hx
end
section
variable {X : Cx}
/-- for in a generator's body: W i n: n bounds the turns that are left -/
def tGFor (wi : TI) (g : TG) (tb : TGn) : TGn := fun D ys σ H => wi σ H fun J H0 => ∃ W : Nat → Nat → List V → St → Hp → Prop, (∃ m, W 0 m ys σ H0) ∧ ∀ i n ys σ H, W i n ys σ H →
  (J.stop i H ∧ D.nx ys σ H) ∨ (J.go i H ∧ ∃ N : List V → St → Hp → Prop, (∀ ys' σ' H', N ys' σ' H' → ∃ m, m < n ∧ W (i + 1) m ys' σ' H') ∧
    ∀ x H', J.yld i H x H' → g x σ H' fun σ1 H1 => tb { D with nx := N, ct := N, bk := D.nx } ys σ1 H1)
theorem gs_for {tg iter : Expr} {body : List Stmt} {wi : TI} {g : TG} {tb : TGn} {pos : Pos} (hp : PassesOwn (model X.prog X.w) X.A X.env X.xe) (hc : X.calm = true) (hi : PI X tg iter wi) (hg : PG X tg g) (hb : GSs X body tb)
    (hs : ∀ x, foldedSetIterable iter X.env x = pure x := by intro _; rfl) : GS X (.For tg iter body [] pos) (tGFor wi g tb) := by
  refine ⟨fun A S ip R n ys s₀ c fs K J' gd lv s σ H D gc hn k hI ht => ?_⟩
  obtain ⟨acc, cc, r, I⟩ := hI
  refine seg_For hs ?_
  rw [gc.over]
  refine wpAny_mono (hi.run _ s σ H _ I ht) (fun v s1 h1 => ?_) fun x s' hx => k.exc n s₀ x s' hx
  refine wpAny_mono h1 (fun itv s2 h2 => ?_) fun x s' hx => k.exc n s₀ x s' hx
  obtain ⟨it, fp, tn, J, H2, rfl, I2, T, st2, f2, W, ⟨m0, w0⟩, turn⟩ := h2
  intro p
  have gl := fun (kk : Result → Sem PySem.Fin) => gc_loop (k := kk) (c' := .forLoop tg (.ref it) body [] X.env) (l := lv []) (kp := []) (p := p) gc rfl rfl
  have stat : ∀ {H' : Hp} {acc' : Array Value} {cc' : Nat}, (∀ b ∈ fp, H' b = none) → ∀ b ∈ fp, FpOk X ((S, lstObj acc' cc') :: ip) H' b := fun {H' acc' cc'} hnn b hb => by
    obtain ⟨a0, a1, a2, a3, a4, a5⟩ := f2 b hb
    refine ⟨hnn b hb, a1, a2, a3, a4, fun q hq => ?_⟩
    rcases List.mem_append.mp hq with z | z
    · exact a5 q (List.mem_append_left _ z)
    · rcases List.mem_cons.mp z with z | z
      · rw [z]
        exact a5 (S, lstObj acc cc) (List.mem_append_right _ List.mem_cons_self)
      · exact a5 q (List.mem_append_right _ (List.mem_cons_of_mem _ z))
  have notS : ∀ b ∈ fp, S ≠ b := fun b hb => (f2 b hb).2.2.2.2.2 (S, lstObj acc cc) (List.mem_append_right _ List.mem_cons_self)
  have glp := fun (kk : Result → Sem PySem.Fin) (h : Heap) => (⟨(gl kk).pn, fun q hq => by
    rcases List.mem_append.mp hq with z | z
    · exact (gl kk).ip q z
    · exact fun e => notS _ (of_pinsAt z).1 e.symm, (gl kk).apart, (gl kk).over, (gl kk).split, (gl kk).guard, (gl kk).gd⟩ : GC X S (ip ++ pinsAt fp h) A (Code.forLoop tg (Value.ref it) body [] X.env) (Frame.ret kk none (gd false) (lv []) c p [] :: fs) id)
  have ee : ∀ (n : Nat) (s₀ : Shared) (x : Value) (s' : Shared), X.xe x s' → Seg (model X.prog X.w) A R (GY X S) n s₀ (.forLoop tg (.ref it) body [] X.env) (errT X.env x)
      (.ret (fun r => ((match r with | .ok f => (.pure f : Sem Flow) | .error e => .raise e).onRaise (cameBack X.env)).wrap K J' gd lv) none (gd false) (lv []) c p [] :: fs) s' := fun n s₀ x s' hx => by
    refine seg_wrap ?_
    rw [(gl _).over]
    refine wpAny_bind (wpAny_mono (hp x s' hx) (fun _ s'' hcb => wpAny_theTreesLotGoes ?_) fun y s'' hcb => ?_)
    · exact seg_leaf (.error x) (seg_cameBack gc k hcb)
    · exact seg_leaf (.error y) (seg_cameBack gc k hcb)
  have loop : ∀ (m i n : Nat) (ys : List V) (s₀ s : Shared) (σ : St) (H : Hp), n + ys.length = sizeLine → W i m ys σ H → GI X S ip ys σ H s → tn i s.heap → (∀ b ∈ fp, H b = none) →
      Seg (model X.prog X.w) A R (GY X S) n s₀ (.forLoop tg (.ref it) body [] X.env) ((model X.prog X.w).den (.forLoop tg (.ref it) body [] X.env))
        (.ret (fun r => ((match r with | .ok f => (.pure f : Sem Flow) | .error e => .raise e).onRaise (cameBack X.env)).wrap K J' gd lv) none (gd false) (lv []) c p [] :: fs) s := by
    intro m
    induction m using Nat.strongRecOn with
    | ind m ih =>
      intro i n ys s₀ s σ H hn w hI st fr
      refine seg_forLoop ?_
      rw [(gl _).over]
      obtain ⟨acc, cc, r, I⟩ := hI
      rcases turn i m ys σ H w with ⟨stop, qn⟩ | ⟨go, N, hN, step⟩
      · refine wpAny_mono (T.done X rfl rfl rfl hc i _ s σ H X.xe I (stat fr) st stop) (fun rr s4 h4 => ?_) fun x s' hx => ee n s₀ x s' hx
        obtain ⟨rfl, I4⟩ := h4
        exact seg_leaf (.ok .next) (k.ok n ys s₀ s4 .next hn ⟨σ, H, ⟨acc, cc, r, I4⟩, qn⟩)
      · refine wpAny_mono (T.item X rfl rfl rfl hc i _ s σ H X.xe I (stat fr) st go) (fun rr s4 h4 => ?_) fun x s' hx => ee n s₀ x s' hx
        obtain ⟨u, rfl, h4⟩ := h4
        refine wpAny_mono h4 (fun _ s5 h5 => ?_) fun x s' hx => ee n s₀ x s' hx
        obtain ⟨x, H5, I5, r5, y5, st5, fr5⟩ := h5
        have I5' := I5.pinned (stat fr5) (T.obj _ _ st5)
        refine wpAny_mono (hg.run _ s5 σ H5 x u _ I5' r5 (step x H5 y5)) (fun _ s6 h6 => ?_) fun x s' hx => ee n s₀ x s' hx
        obtain ⟨σ6, H6, I6, q6⟩ := h6
        refine hb.run A S (ip ++ pinsAt fp s5.heap) R n ys s₀ _ _ _ _ id id s6 σ6 H6 { D with nx := N, ct := N, bk := D.nx } (glp _ _) hn ⟨fun n' ys' s₀' s7 f hn' hs => ?_, fun n' s₀' x s7 hx => ee n' s₀' x s7 hx⟩ ⟨acc, cc, r, I6⟩ q6
        have again : ∀ {σ7 : St} {H7 : Hp}, GI X S (ip ++ pinsAt fp s5.heap) ys' σ7 H7 s7 → N ys' σ7 H7 → Seg (model X.prog X.w) A R (GY X S) n' s₀' (.forLoop tg (.ref it) body [] X.env) (.pure (.again (.forLoop tg (.ref it) body [] X.env)))
            (.ret (fun r => ((match r with | .ok f => (.pure f : Sem Flow) | .error e => .raise e).onRaise (cameBack X.env)).wrap K J' gd lv) none (gd false) (lv []) c p [] :: fs) s7 := by
          rintro σ7 H7 ⟨acc7, cc7, r7, I7⟩ n7
          obtain ⟨m', hm, w7⟩ := hN ys' σ7 H7 n7
          have I7' : Inv X (((S, lstObj acc7 cc7) :: ip) ++ pinsAt fp s5.heap) σ7 H7 s7 := I7
          refine seg_again rfl (ih m' hm (i + 1) n' ys' s₀' s7 σ7 H7 hn' w7 ⟨acc7, cc7, r7, I7'.unpinned⟩ (T.keep _ _ _ st5 fun b hb o e => (I7'.pin (b, o) (List.mem_append_right _ (List.mem_append_right _ (mem_pinsAt hb e)))).1) fun b hb => ?_)
          obtain ⟨o, e, d⟩ := T.obj _ _ st5 b hb
          exact (I7'.pin (b, o) (List.mem_append_right _ (List.mem_append_right _ (mem_pinsAt hb e)))).2.1
        have back : ∀ {σ7 : St} {H7 : Hp}, GI X S (ip ++ pinsAt fp s5.heap) ys' σ7 H7 s7 → GI X S ip ys' σ7 H7 s7 := by
          rintro σ7 H7 ⟨acc7, cc7, r7, I7⟩
          have I7' : Inv X (((S, lstObj acc7 cc7) :: ip) ++ pinsAt fp s5.heap) σ7 H7 s7 := I7
          exact ⟨acc7, cc7, r7, I7'.unpinned⟩
        cases f with
        | next => obtain ⟨σ7, H7, I7, n7⟩ := hs; exact again I7 n7
        | cont => obtain ⟨σ7, H7, I7, n7⟩ := hs; exact again I7 n7
        | brk => obtain ⟨σ7, H7, I7, q7⟩ := hs; exact seg_leaf (.ok .next) (k.ok n' ys' s₀' s7 .next hn' ⟨σ7, H7, back I7, q7⟩)
        | ret v => obtain ⟨x7, σ7, H7, I7, r7, q7⟩ := hs; exact seg_leaf (.ok (.ret v)) (k.ok n' ys' s₀' s7 (.ret v) hn' ⟨x7, σ7, H7, back I7, r7, q7⟩)
  exact loop m0 0 n ys s₀ s2 σ H2 hn w0 ⟨acc, cc, r, I2⟩ st2 fun b hb => (f2 b hb).1
end
section
variable {P : Program} {w : World} {mg : Str → Option Value} {base : Heap} {K : PySem.W.Frag} {x qual : Str} {params : Arguments} {body : List Stmt} {scope : Scope} {dvs : List V} {kws : List (Str × V)} {f : Addr} {fd : FuncData}
theorem FunD.okGen {N ps : List Str} {k : Nat} {sp : SpG} (F : FunD K x qual params body scope dvs kws f fd) (S : GScope N ps scope) (len : ∀ vs H Q E, sp vs H Q E → vs.length = ps.length)
    (hbody : ∀ (cdv : Value) (A : Around) (outer : List Env) (s : Shared) (H : Hp) (vs : List V) (Q : List V → Hp → Prop) (E : XK) (pn : List (Addr × Obj)), Room k (A.deeper (envOfC qual scope s.heap.objs.size f cdv)) → sp vs H Q E →
      ∃ t, GSs (gcxOf P w K mg base N qual scope f cdv A outer s H E pn) body t ∧ t { nx := fun ys _ H' => Q ys H', rt := fun ys v H' => v = .non ∧ Q ys H' } [] (start N vs) H) : GFn P w K mg base (k + 1) f fd ps sp := by
  obtain ⟨oc, od, dV, kV, doc, pm, an, cdv, ct, osl, rfl, lk, hcd, _, _⟩ := F.ex
  exact gfn_of lk hcd S len fun A outer s H vs Q E pn hr hsp => hbody cdv A outer s H vs Q E pn hr hsp
theorem passesE0 {X : Cx} : Passes (CX X.prog X.w) X E0 := fun pins σ H s e s' I c => passE0 σ pins H s e s' I c
theorem nostopE0 {K : PySem.W.Frag} : NoStop K E0 := fun _ _ _ z => False.elim z
end
end L2

/-! set(text), and sorted(..) of it: the signs of the text, each once, rising. After HandS.Set, for texts of one sign. -/
namespace L2
open PySem PySem.Spec PyProof.Rows
namespace SX
def keyS (e : Int × Value) : Str := match e.2 with | .str x _ => x | _ => Str.empty
def Gd (w : World) (e : Int × Value) : Prop := ∃ x tk, e.2 = Value.str x tk ∧ e.1 = hashStr w x
/-- a set of texts: its members without doubles; it can be walked -/
def SetS (w : World) (h : Heap) (a : Addr) (ks : List Str) : Prop :=
  ∃ o es ep t, h.get? a = some o ∧ o.ExactSet ∧ o.data = .set es ep t ∧ (∀ e ∈ es.toList, Gd w e) ∧ (es.toList.map keyS).Perm ks ∧ ks.Nodup ∧
    es.size < scanBound ∧ t.fits es.size = true ∧ Ris t.place.toList ∧ (w.params.followText "set-order" = true ∨ t.led = true)
section
variable {P : Program} {w : World} {h h' : Heap} {a : Addr} {ks : List Str}
theorem SetS.kept (R : SetS w h a ks) (k : ∀ o, h.get? a = some o → h'.get? a = some o) : SetS w h' a ks := let ⟨o, es, ep, t, g, r⟩ := R; ⟨o, es, ep, t, k o g, r⟩
theorem gd_elems {l : List (Int × Value)} (g : ∀ e ∈ l, Gd w e) : ElemsOf (strKind P w) l := fun e he => by
  obtain ⟨x, tk, e1, e2⟩ := g e he
  refine ⟨⟨x, ?_, e2⟩, ?_⟩
  · rw [e1]; exact strKind_is P w x tk
  · rw [e1]; rfl
theorem gd_is {e : Int × Value} (g : Gd w e) (x : Str) : (strKind P w).is x e.2 = true ↔ keyS e = x := by
  obtain ⟨y, tk, e1, _⟩ := g
  unfold keyS
  rw [e1]
  constructor
  · intro q
    exact (strKind P w).inj _ _ _ (strKind_is P w y tk) q
  · intro q
    have q : y = x := q
    rw [← q]
    exact strKind_is P w y tk
theorem gd_mem {l : List (Int × Value)} (g : ∀ e ∈ l, Gd w e) (x : Str) : x ∈ l.map keyS ↔ ∃ e ∈ l, (strKind P w).is x e.2 = true := by
  rw [List.mem_map]
  exact ⟨fun ⟨e, he, q⟩ => ⟨e, he, (gd_is (g e he) x).2 q⟩, fun ⟨e, he, q⟩ => ⟨e, he, (gd_is (g e he) x).1 q⟩⟩
end
/-- x behind the list, unless it is in it -/
def addK (ks : List Str) (x : Str) : List Str := if x ∈ ks then ks else ks ++ [x]
theorem addK_nodup {ks : List Str} {x : Str} (h : ks.Nodup) : (addK ks x).Nodup := by
  unfold addK
  split
  · exact h
  · rename_i c
    refine List.nodup_append.mpr ⟨h, by simp, fun y hy z hz e => ?_⟩
    rw [List.mem_singleton.mp hz] at e
    exact c (e ▸ hy)
theorem addK_mem {ks : List Str} {x y : Str} : y ∈ addK ks x ↔ y ∈ ks ∨ y = x := by
  unfold addK
  split
  · rename_i c
    exact ⟨.inl, fun q => q.elim id fun e => e ▸ c⟩
  · simp
theorem addK_len (ks : List Str) (x : Str) : (addK ks x).length ≤ ks.length + 1 := by
  unfold addK
  split
  · omega
  · simp
section
variable {P : Program} {w : World} {A : Around} {E : Value → Shared → Prop} {s : Shared} {a : Addr} {ks : List Str}
theorem add_end {g : Bool → Sem Unit} (gq : ∀ (b : Bool) (s9 : Shared) (Q9 : Unit → Shared → Prop), Q9 () s9 → wpAny (model P w) A (g b) Q9 E s9)
    {o : Obj} {es : Array (Int × Value)} {ep : Nat} {t : SetTable} (oa : s.heap.get? a = some o) (ox : o.ExactSet) (od : o.data = .set es ep t)
    {e1 : Array (Int × Value)} {t2 : SetTable} {ls : List Str} (q1 : ∀ e ∈ e1.toList, Gd w e) (q2 : (e1.toList.map keyS).Perm ls) (q3 : ls.Nodup)
    (q4 : e1.size < scanBound) (q5 : t2.fits e1.size = true) (q6 : Ris t2.place.toList) (q7 : w.params.followText "set-order" = true ∨ t2.led = true) {wd : Bool} {R : Option Bool → Shared → Prop}
    (qR : ∀ h', Heap.SameBut a s.heap h' → SetS w h' a ls → R (some true) { s with heap := h' }) :
    wpAny (model P w) A (do
        storeSet a e1 t2
        if (!wd && t2.tooFull) = true then do
            g (relayAll t2 e1 (SetTable.grown e1.size)).2.2
            storeSet a (relayAll t2 e1 (SetTable.grown e1.size)).1 (relayAll t2 e1 (SetTable.grown e1.size)).2.1
            pure (some true)
          else pure (some true)) R E s := by
  refine wpAny_bind (wpAny_storeSet_of oa od ?_ (fits_of_scanBound q4))
  have o1 := store_at (es' := e1) (t' := t2) oa od
  have b1 := Heap.SameBut.update s.heap a (Obj.putSet e1 t2)
  split
  · have p0 := relayAll_perm t2 e1 (SetTable.grown e1.size)
    have p1 := relayAll_fits t2 e1 (SetTable.grown e1.size)
    have p2 := relayAll_ris t2 e1 (SetTable.grown e1.size)
    have p3 := relayAll_led t2 e1 (SetTable.grown e1.size)
    generalize relayAll t2 e1 (SetTable.grown e1.size) = Y at p0 p1 p2 p3 ⊢
    obtain ⟨e2, t3, gv⟩ := Y
    dsimp only at p0 p1 p2 p3 ⊢
    have sz : e2.size = e1.size := by rw [← Array.length_toList, p0.length_eq, Array.length_toList]
    have sb : e2.size < scanBound := by rw [sz]; exact q4
    refine wpAny_bind (gq _ _ _ (wpAny_bind (wpAny_storeSet_of o1 rfl ?_ (fits_of_scanBound sb))))
    have o2 := store_at (es' := e2) (t' := t3) o1 rfl
    refine wpAny_pure (qR _ (b1.trans (Heap.SameBut.update _ a _)) ⟨_, e2, _, t3, o2, ox, rfl, fun e he => q1 e (p0.mem_iff.mp he), (p0.map keyS).trans q2, q3, sb, p1, p2, ?_⟩)
    rcases q7 with z | z
    · exact .inl z
    · exact .inr (by rw [p3]; exact z)
  · exact wpAny_pure (qR _ b1 ⟨_, e1, _, t2, o1, ox, rfl, q1, q2, q3, q4, q5, q6, q7⟩)
theorem add_one {x : Str} {tk : Tok} {Q : Bool → Shared → Prop} (R : SetS w s.heap a ks) (room : ks.length + 1 < scanBound)
    (qQ : ∀ h' b, Heap.SameBut a s.heap h' → SetS w h' a (addK ks x) → Q b { s with heap := h' }) :
    wpAny (model P w) A (setAddHashed a (.str x tk) (hashStr w x)) Q E s := by
  obtain ⟨o, es, ep, t, oa, ox, od, g, pm, nd, sbd, ft, ri, ld⟩ := R
  have isx : (strKind P w).is x (.str x tk) = true := strKind_is P w x tk
  have scx : (Value.str x tk).scannable = true := rfl
  have els : ElemsOf (strKind P w) es.toList := gd_elems g
  have esz : es.size = ks.length := by have := pm.length_eq; rw [List.length_map, Array.length_toList] at this; exact this
  unfold setAddHashed setAddHashedIn
  refine wpAny_holding (wpAny_bind (wpAny_setState_of oa od ft ?_))
  dsimp only
  rw [byScan_of scx sbd els]
  simp only [↓reduceIte]
  unfold setAddByScan
  refine wpAny_bind (wpAny_bind (wpAny_rule ?_))
  refine wpAny_bind (wpAny_setScan_of (knd := strKind P w) isx oa od ft els ?_)
  cases hf : List.findIdx? (fun e => (strKind P w).is x e.2) es.toList with
  | some j =>
    dsimp only
    obtain ⟨hj, pj, _⟩ := List.findIdx?_eq_some_iff_getElem.mp hf
    have inx : x ∈ ks := pm.mem_iff.mp ((gd_mem (P := P) g x).2 ⟨es.toList[j], List.getElem_mem hj, pj⟩)
    refine wpAny_pure (wpAny_pure ?_)
    have q := qQ s.heap false (Heap.SameBut.refl a s.heap) ⟨o, es, ep, t, oa, ox, od, g, by unfold addK; rw [if_pos inx]; exact pm, by unfold addK; rw [if_pos inx]; exact nd, sbd, ft, ri, ld⟩
    exact q
  | none =>
    dsimp only
    have nox : x ∉ es.toList.map keyS := fun z => by
      obtain ⟨e, he, q⟩ := (gd_mem (P := P) g x).1 z
      have c := List.findIdx?_eq_none_iff.mp hf e he
      rw [q] at c
      cases c
    have nok : x ∉ ks := fun z => nox (pm.mem_iff.mpr z)
    have gwy : ∀ (b : Bool) {s9 : Shared} {Q9 : Unit → Shared → Prop}, Q9 () s9 → wpAny (model P w) A (match b with | true => rule "set.scan.the-table-gave-way" | false => pure ()) Q9 E s9 := fun b s9 Q9 q => by
      cases b
      · exact wpAny_pure q
      · exact wpAny_rule q
    have l0 := layNew_perm t es (hashStr w x) (.str x tk)
    have l1 := layNew_fits t es (hashStr w x) (.str x tk)
    have l2 := layNew_ris t es (hashStr w x) (.str x tk) ri
    have l3 := layNew_led t es (hashStr w x) (.str x tk)
    show wpAny (model P w) A _ _ E s
    have eh : (strKind P w).hash x = hashStr w x := rfl
    generalize layNew t es (hashStr w x) (.str x tk) = Y at l0 l1 l2 l3 ⊢
    obtain ⟨e1, t1, wd, gv⟩ := Y
    dsimp only at l0 l1 l2 l3 ⊢
    rw [Array.toList_push] at l0
    have lc : e1.toList.Perm ((hashStr w x, Value.str x tk) :: es.toList) := l0.trans (List.perm_append_singleton _ _)
    have lk : (e1.toList.map keyS).Perm (addK ks x) := by
      unfold addK
      rw [if_neg nok]
      exact (lc.map keyS).trans ((List.Perm.cons x pm).trans (List.perm_append_singleton x ks).symm)
    have g1 : ∀ e ∈ e1.toList, Gd w e := fun e he => by
      rcases List.mem_cons.mp (lc.mem_iff.mp he) with z | z
      · exact ⟨x, tk, by rw [z], by rw [z]⟩
      · exact g e z
    have n1 : (addK ks x).Nodup := addK_nodup nd
    have z1 : e1.size = es.size + 1 := by rw [← Array.length_toList, lc.length_eq, List.length_cons, Array.length_toList]
    have b1 : e1.size < scanBound := by rw [z1, esz]; exact room
    have d1 : w.params.followText "set-order" = true ∨ t1.led = true := by
      rcases ld with z | z
      · exact .inl z
      · exact .inr (by rw [l3]; exact z)
    refine wpAny_bind (gwy _ ?_)
    split
    · refine wpAny_bind ?_
      rw [hashByValue_scannable 8 scx]
      refine wpAny_pure ?_
      refine add_end (ls := addK ks x) ?_ oa ox od g1 lk n1 b1 ?_ ?_ ?_ ?_
      · intro b s9 Q9 q
        cases b
        · exact wpAny_pure q
        · exact wpAny_rule q
      · first | (split <;> first | exact l1 | exact SetTable.fits_plain_off l1) | exact l1
      · first | (split <;> exact l2) | exact l2
      · first | (split <;> exact d1) | exact d1
      · intro h' sb r
        dsimp only
        exact wpAny_pure (qQ h' true sb r)
    · refine wpAny_bind (wpAny_pure ?_)
      simp only [↓reduceIte]
      refine add_end (ls := addK ks x) ?_ oa ox od g1 lk n1 b1 l1 l2 d1 ?_
      · intro b s9 Q9 q
        cases b
        · exact wpAny_pure q
        · exact wpAny_rule q
      · intro h' sb r
        dsimp only
        exact wpAny_pure (qQ h' true sb r)
/-- the signs of a text, each once, in the order in which they are met -/
def metS (x : Str) : Nat → List Str
  | 0 => []
  | i + 1 => match x.cps[i]? with | some c => addK (metS x i) ⟨#[c]⟩ | none => metS x i
theorem metS_len (x : Str) : ∀ i, (metS x i).length ≤ i
  | 0 => Nat.le_refl _
  | i + 1 => by
    have := metS_len x i
    unfold metS
    split
    · rename_i c _
      have := addK_len (metS x i) ⟨#[c]⟩
      omega
    · omega
theorem metS_nodup (x : Str) : ∀ i, (metS x i).Nodup
  | 0 => by simp [metS]
  | i + 1 => by
    unfold metS
    split
    · exact addK_nodup (metS_nodup x i)
    · exact metS_nodup x i
theorem metS_mem (x : Str) (y : Str) : ∀ i, y ∈ metS x i ↔ ∃ j c, j < i ∧ x.cps[j]? = some c ∧ y = ⟨#[c]⟩
  | 0 => by simp [metS]
  | i + 1 => by
    have ih := metS_mem x y i
    unfold metS
    split
    · rename_i c hc
      rw [addK_mem, ih]
      constructor
      · rintro (⟨j, d, h1, h2, h3⟩ | e)
        · exact ⟨j, d, by omega, h2, h3⟩
        · exact ⟨i, c, by omega, hc, e⟩
      · rintro ⟨j, d, h1, h2, h3⟩
        by_cases e : j = i
        · subst e
          rw [hc] at h2
          cases h2
          exact .inr h3
        · exact .inl ⟨j, d, by omega, h2, h3⟩
    · rename_i hc
      rw [ih]
      constructor
      · rintro ⟨j, d, h1, h2, h3⟩
        exact ⟨j, d, by omega, h2, h3⟩
      · rintro ⟨j, d, h1, h2, h3⟩
        refine ⟨j, d, ?_, h2, h3⟩
        rcases Nat.lt_or_ge j i with q | q
        · exact q
        · have : j = i := by omega
          rw [this, hc] at h2
          cases h2
theorem loop_signs {I : Addr} {fp wr : List Addr} {G : Array GenState → Array GenState → Prop} {St : Nat → Shared → Prop} {R : Result → Shared → Prop} {x : Str}
    (W : WalksS P w A.in1 I fp wr G x.cps.size (SignAt x) St) (D : Addr) (nD : D ∉ fp) (bd : x.cps.size + 1 < scanBound) :
    ∀ (m i : Nat) (s : Shared), x.cps.size - i = m → i ≤ x.cps.size → St i s → SetS w s.heap D (metS x i) →
      (∀ s', Moved (D :: wr) G s s' → SetS w s'.heap D (metS x x.cps.size) → R (.ok (.ret .none)) s') →
      codeAny (model P w) A (.builtin "set.update.loop" ⟨[.ref D, .ref I], []⟩) R s := by
  have nw : D ∉ wr := fun z => nD (W.sub _ z)
  have sub : ∀ b ∈ wr, b ∈ D :: wr := fun b z => List.mem_cons_of_mem _ z
  intro m
  induction m with
  | zero =>
    intro i s hm hi st hS hR
    have ei : i = x.cps.size := by omega
    subst ei
    refine codeAny_builtin F.entry_set_update_loop ?_
    rw [Around.under_plainId F.plain_set_update_loop _]
    show wpAny _ A.in1 (pyNext (.ref I) >>= _) _ _ s
    exact wpAny_bind (W.done s _ _ st fun s' mv => wpAny_pure (hR s' (mv.mono sub) (hS.kept fun o e => mv.heap D o nw e)))
  | succ m ih =>
    intro i s hm hi st hS hR
    have lt : i < x.cps.size := by omega
    refine codeAny_builtin F.entry_set_update_loop ?_
    rw [Around.under_plainId F.plain_set_update_loop _]
    show wpAny _ A.in1 (pyNext (.ref I) >>= _) _ _ s
    refine wpAny_bind (W.item i s _ _ lt st fun v s' hP st' mv => ?_)
    obtain ⟨c, tk, hc, rfl⟩ : ∃ c tk, x.cps[i]? = some c ∧ v = .str ⟨#[c]⟩ tk := hP
    have hS' := hS.kept (h' := s'.heap) fun o e => mv.heap D o nw e
    show wpAny _ A.in1 (holding [Value.str ⟨#[c]⟩ tk] (setAdd D (.str ⟨#[c]⟩ tk)) >>= _) _ _ s'
    refine wpAny_bind (wpAny_holding ?_)
    unfold setAdd
    refine wpAny_holding (wpAny_bind ((strKind P w).pyHash (k := ⟨#[c]⟩) (strKind_is _ _ _ _) ?_))
    have ml := metS_len x i
    refine add_one (s := { s' with toks := s'.toks + 1 }) hS' (by omega) fun h' b sb hS2 => ?_
    have e2 : addK (metS x i) ⟨#[c]⟩ = metS x (i + 1) := by
      show _ = match x.cps[i]? with | some c => addK (metS x i) ⟨#[c]⟩ | none => metS x i
      rw [hc]
    rw [e2] at hS2
    refine wpAny_pure ⟨plainId_quiet F.plain_set_update_loop _, ih (i + 1) _ (by omega) lt (W.frame _ s' _ _ st' (Nat.le_succ _) fun b hb o e => ?_) hS2 fun s2 mv2 hS3 => ?_⟩
    · rw [sb.2 b (fun z : b = D => nD (by rw [← z]; exact hb))]
      exact e
    · refine hR s2 (Moved.trans W.gtrans ((mv.mono sub).then_heap (Nat.le_succ _) fun b o hb e => ?_) mv2) hS3
      rw [sb.2 b (fun z : b = D => hb (by rw [z]; exact List.mem_cons_self))]
      exact e
theorem fresh_at {h : Heap} {a : Addr} (oa : h.get? a = some { cls := .type "set", dict := none, data := .set #[] 0 (.fresh 0 0 (!w.params.followText "set-order")) }) : SetS w h a [] :=
  ⟨_, #[], 0, _, oa, ⟨rfl, rfl, rfl⟩, rfl, (fun e he => by simp at he), by simp, by simp, by decide, by rfl, List.Pairwise.nil, by
    show _ ∨ (!w.params.followText "set-order") = true
    cases w.params.followText "set-order" with
    | false => exact .inr rfl
    | true => exact .inl rfl⟩
set_option maxHeartbeats 6400000 in
theorem set_of_text {x : Str} {tx : Tok} {Q : Value → Shared → Prop} (hh : A.handled = none) (bd : x.cps.size + 1 < scanBound)
    (q : ∀ (h' : Heap) (tk : Nat), SetS w h' s.heap.objs.size (metS x x.cps.size) → (∀ b o, s.heap.get? b = some o → h'.get? b = some o) → Q (.ref s.heap.objs.size) { s with heap := h', toks := tk }) :
    wpAny (model P w) A (call (.type "set") [.str x tx]) Q E s := by
  obtain ⟨c, tl, hmro⟩ := F.called_set.mro
  have k1 := F.called_set.made
  have k2 := F.called_set.sub
  refine wpAny_call (codeAny_of_tree ?_)
  show wpAny _ _ (callAny (.type "set") _) _ _ _
  refine wpAny_pure ⟨Code.quiet_builtin _ (by decide +kernel), codeAny_builtin F.entry_type_call ?_⟩
  rw [Around.under_plain (weight_type_call_type "set" [.str x tx] []) rfl]
  have k3 := F.called_set.notType
  have k4 := F.called_set.canCreate
  have k5 := F.typeCall_set_1 (.str x tx)
  repeat (any_goals (first | assumption | wp_step))
  refine codeAny_mono (code_set_led1 (.str x tx) (E := E) (Q₁ := fun ob s9 => ob = .ref s.heap.objs.size ∧ s9 = { s with heap := s.heap.push { cls := .type "set", dict := none, data := .set #[] 0 (.fresh 0 0 (!w.params.followText "set-order")) } }) ⟨rfl, rfl⟩) fun r s9 hr => ?_
  cases r with
  | error e => exact hr
  | ok fl =>
    cases fl with
    | ret ob =>
      obtain ⟨rfl, rfl⟩ := hr
      have oS : (s.heap.push { cls := .type "set", dict := none, data := .set #[] 0 (.fresh 0 0 (!w.params.followText "set-order")) }).get? s.heap.objs.size = some { cls := .type "set", dict := none, data := .set #[] 0 (.fresh 0 0 (!w.params.followText "set-order")) } := Heap.get?_push_size _ rfl
      have tS : Shared.TypeIs { s with heap := s.heap.push { cls := .type "set", dict := none, data := .set #[] 0 (.fresh 0 0 (!w.params.followText "set-order")) } } (.ref s.heap.objs.size) "set" := ⟨_, oS, rfl⟩
      have k6 := F.called_set.init.lookup
      have k7 := F.called_set.init.bind (.ref s.heap.objs.size)
      repeat (any_goals (first | assumption | wp_step))
      refine codeAny_mono (codeAny_call_builtin (R := wants (fun r s2 => r = .none ∧ ∃ h' tk, s2 = { s with heap := h', toks := tk } ∧ SetS w h' s.heap.objs.size (metS x x.cps.size) ∧
          (∀ b o, s.heap.get? b = some o → h'.get? b = some o)) E) F.called_set.init.plain F.entry_set_init (check_set_init_1 tS ?_)) fun r2 s2 hr2 => ?_
      · have k8 : isSubtype (.type "str") (.type "set") = pure false := by rw [isSubtype_type]; kernel_rfl
        have k9 : isSubtype (.type "str") (.type "frozenset") = pure false := by rw [isSubtype_type]; kernel_rfl
        have ne : (Value.type "str" == Value.type "dict") = false := by decide
        unfold Builtin.«set.__init__» noKeywords Builtin.Frozenset.updateFrom
        generalize hPI : pyIter = PI
        wp_walk
        subst hPI
        refine wpAny_pyIter_str fun o St WW st0 => ?_
        refine wpAny_bind (wpAny_runValue ?_)
        have h3 : A.in1.in1.in1.handled = none := by simp [hh]
        generalize hH : s.heap.push { cls := .type "set", dict := none, data := .set #[] 0 (.fresh 0 0 (!w.params.followText "set-order")) } = H at WW st0 oS ⊢
        have hz : H.objs.size = s.heap.objs.size + 1 := by rw [← hH, Heap.size_push]
        have nD : s.heap.objs.size ∉ [H.objs.size] := fun z => by
          have := List.mem_singleton.mp z
          omega
        refine loop_signs (WW _ h3).toS s.heap.objs.size nD bd (x.cps.size - 0) 0 _ rfl (Nat.zero_le _) st0 (fresh_at (Heap.get?_push_of_some _ oS)) fun s' mv hS' => ?_
        obtain ⟨h', g2, d2, tk2, os2⟩ := s'
        have eg : g2 = s.gens := mv.gens
        have ed : d2 = s.drawn := mv.drawn
        have eo : os2 = s.os := mv.os
        subst eg; subst ed; subst eo
        refine wpAny_pure (wpAny_pure ⟨rfl, h', tk2, rfl, hS', fun b o e => ?_⟩)
        have lt := Heap.lt_size e
        refine mv.heap b o (fun z => ?_) (Heap.get?_push_of_some _ (hH ▸ Heap.get?_push_of_some _ e))
        rcases List.mem_cons.mp z with z | z
        · exact absurd lt (by rw [z]; exact Nat.lt_irrefl _)
        · exact absurd lt (by rw [List.mem_singleton.mp z, hz]; exact Nat.not_lt.mpr (Nat.le_succ _))
      · cases r2 with
        | error e => exact hr2
        | ok f2 =>
          cases f2 with
          | ret r =>
            obtain ⟨rfl, h', tk, rfl, hS', kp⟩ := hr2
            repeat (any_goals (first | assumption | wp_step))
            exact q _ _ hS' kp
          | _ => exact hr2.elim
    | _ => exact hr.elim
theorem strs_of : ∀ (l : List Value), (∀ v ∈ l, ∃ x tk, v = Value.str x tk) → ∃ ss, StrsAre l ss ∧ ss = l.map fun v => match v with | .str x _ => x | _ => Str.empty
  | [], _ => ⟨[], .nil, rfl⟩
  | v :: l, g => by
    obtain ⟨x, tk, rfl⟩ := g v List.mem_cons_self
    obtain ⟨ss, r, e⟩ := strs_of l fun u hu => g u (List.mem_cons_of_mem _ hu)
    exact ⟨x :: ss, .cons x tk r, by rw [e]; rfl⟩
theorem sorted_of_set {Q : Value → Shared → Prop} (R : SetS w s.heap a ks) (hh : A.handled = none) (few : ks.length < 64)
    (q : ∀ s' p (out : Array Value) (c : Nat) (ys : List Str), (∀ b o, s.heap.get? b = some o → s'.heap.get? b = some o) → s'.gens = s.gens → s'.os = s.os → s.heap.objs.size ≤ p →
      s'.heap.get? p = some (seqObj "list" out c) → StrsAre out.toList ys → ys.Perm ks → sortedS ys = true → Q (.ref p) s') :
    wpAny (model P w) A (call (.builtin "sorted") [.ref a]) Q E s := by
  obtain ⟨o, es, ep, t, oa, ox, od, g, pm, nd, sbd, ft, ri, ld⟩ := R
  have esz : es.size = ks.length := by have := pm.length_eq; rw [List.length_map, Array.length_toList] at this; exact this
  refine Calls.call_function_entry kind_sorted plain_sorted entry_sorted (args_sorted1 _) ?_
  unfold Builtin.«sorted»
  refine wpAny_bind (m := checkCount "sorted" 1 1 _) (wpAny_pure ?_)
  refine wpAny_bind (collect_set (A := A.in1) hh ⟨o, oa, ox.1, od⟩ ft sbd ri ld fun s1 vs k1 hz g1 o1 vp => ?_)
  have vl : vs.length = ks.length := by rw [vp.length_eq, List.length_map, Array.length_toList]; exact esz
  obtain ⟨ss, hS, es1⟩ := strs_of vs fun v hv => by
    obtain ⟨e, he, q⟩ := List.mem_map.mp (vp.mem_iff.mp hv)
    obtain ⟨x, tk, e1, _⟩ := g e he
    exact ⟨x, tk, by rw [← q]; exact e1⟩
  have sp : ss.Perm ks := by
    have q := vp.map fun v => match v with | .str x _ => x | _ => Str.empty
    rw [List.map_map, ← es1] at q
    exact q.trans pm
  refine wpAny_bind (wpAny_newList ?_ (by rw [vl, sizeLine_eq]; omega))
  have oL : (s1.heap.push (seqObj "list" vs.toArray 0)).get? s1.heap.objs.size = some (seqObj "list" vs.toArray 0) := Heap.get?_push_size _ rfl
  refine wpAny_bind (wpAny_holding (wpAny_call_entry slot_list_sort ⟨_, oL, rfl⟩ entry_list_sort
    (list_sort_treeK strKind_oneLt oL hS.keysOf (fun v1 v2 rest e => keyKind_strs (by rw [← e]; exact hS)) (by rw [vl]; exact few) fun st' hp hs => ⟨_, rfl, ?_⟩) (args_list_sort _)))
  obtain ⟨ys, y1, y2, y3⟩ := sorted_out_str hS hp hs
  obtain ⟨c, hc⟩ := sortedHeap_at (vs := vs) (out := (arrOf st').map (·.2)) oL
  refine wpAny_pure ⟨_, rfl, q _ s1.heap.objs.size _ c ys (fun b u e => ?_) g1 o1 hz hc y1 (y2.trans sp) y3⟩
  have e1 := k1 b u e
  have lt := Heap.lt_size e1
  show (sortedHeap (s1.heap.push (seqObj "list" vs.toArray 0)) s1.heap.objs.size vs _).get? b = some u
  rw [sortedHeap_old (Nat.ne_of_lt lt) (by rw [size_push']; exact Nat.lt_succ_of_lt lt)]
  exact Heap.get?_push_of_some _ e1
end
end SX
/-! ### over the layer -/
/-- the set of texts ks at a -/
def StrSet (w : World) (a : Addr) (ks : List Str) : HO := .ext fun h => SX.SetS w h a ks
theorem strSet_new {P : Program} {w : World} {H : Hp} {h : Heap} {a : Addr} {ks : List Str} (R : SX.SetS w h a ks) : ObjOk P w H h a (StrSet w a ks) := by
  have ⟨o, _, _, _, ho, _⟩ := R
  exact ⟨R, ⟨o, ho⟩, fun h1 h2 p k => SX.SetS.kept p k⟩
section
variable {X : Cx}
theorem strSet_get {pins : List (Addr × Obj)} {σ : St} {H : Hp} {s : Shared} {a : Addr} {ks : List Str} (I : Inv X pins σ H s) (ha : H a = some (StrSet X.w a ks)) : SX.SetS X.w s.heap a ks := (I.hok a _ ha).1
def rSetTx (w : World) : List V → Hp → VK → Prop := fun vs H Q => ∃ x, vs = [.str x] ∧ x.cps.size ≤ 1000 ∧ ∀ p, H p = none → Q (.ref p) (upd H p (StrSet w p (SX.metS x x.cps.size)))
theorem cr_setTx (hc : X.calm = true) : CallR X (.type "set") (rSetTx X.w) := by
  intro pins s σ H xs us Q I r h
  obtain ⟨x, rfl, hx, q⟩ := h
  cases r with
  | cons r rr =>
    cases rr
    obtain ⟨t, rfl⟩ := r
    refine SX.set_of_text (P := X.prog) (w := X.w) (I.ok.hd hc) (by have e : scanBound = 4096 := rfl; omega) fun h' tk R kp => ?_
    exact ⟨.ref s.heap.objs.size, _, I.laid (t' := tk) kp (Nat.le_refl _) (strSet_new R), rfl, q _ (I.hok.fresh (Nat.le_refl _))⟩
def rSortedTx (w : World) : List V → Hp → VK → Prop := fun vs H Q => ∃ a ks, vs = [.ref a] ∧ H a = some (StrSet w a ks) ∧ ks.length < 64 ∧
  ∀ (ys : List Str) (p : Addr), ys.Perm ks → sortedS ys = true → H p = none → Q (.ref p) (upd H p (.lst (ys.map V.str)))
theorem cr_sortedTx (hc : X.calm = true) : CallR X (.builtin "sorted") (rSortedTx X.w) := by
  intro pins s σ H vs us Q I r h
  obtain ⟨a, ks, rfl, ha, few, q⟩ := h
  have R := strSet_get I ha
  rw [Vals.ref1 r]
  refine SX.sorted_of_set (P := X.prog) R (I.ok.hd hc) few fun s' p out c ys k g o hp hg hi pm so => ?_
  have yl : (ys.map V.str).length ≤ sizeLine := by rw [List.length_map, pm.length_eq, sizeLine_eq]; omega
  have fp : H p = none := I.hok.fresh hp
  have J : Inv X pins σ (upd H p (.lst (ys.map V.str))) { s with heap := s'.heap, gens := s'.gens, drawn := s'.drawn, toks := s'.toks } :=
    I.call (ch := []) (Un.laid k hp fp) (I.hok.laid k hp ⟨yl, out.toList, c, vals_of_strs hi, hg⟩) (by rw [g]; exact I.bare) (fun _ z => nomatch z)
  have e : s' = { s with heap := s'.heap, gens := s'.gens, drawn := s'.drawn, toks := s'.toks } := by
    cases s'
    cases s
    cases o
    rfl
  rw [e]
  exact ⟨.ref p, _, J, rfl, q ys p pm so fp⟩
/-- sorted(set(x)) -/
def tSortSet (te : TE) : TE := fun σ H Q => te σ H fun v H1 => ∃ x, v = .str x ∧ x.cps.size ≤ 60 ∧ ∀ (p q : Addr) (o : HO) (ys : List Str), H1 p = none → q ≠ p → H1 q = none → ys.Perm (SX.metS x x.cps.size) → sortedS ys = true →
  Q (.ref q) (upd (upd H1 p o) q (.lst (ys.map V.str)))
def tMn (te : TE) : TE := fun σ H Q => ∃ Q0 : VK, te σ H Q0 ∧ ∀ v H1, Q0 v H1 → Q v H1
theorem pe_mn {e : Expr} {te : TE} (he : PE X e te) : PE X e (tMn te) := ⟨fun pins s σ H Q I h => by
  obtain ⟨Q0, h0, h1⟩ := h
  exact thn (he.run pins s σ H Q0 I h0) fun _ _ ⟨v, H1, I1, r1, z⟩ => ⟨v, H1, I1, r1, h1 v H1 z⟩⟩
theorem pe_sortSet {e : Expr} {te : TE} {p1 p2 pos1 pos2 : Pos} (hc : X.calm = true) (g1 : Gl X "sorted") (m1 : X.mg "sorted" = none) (g2 : Gl X "set") (m2 : X.mg "set" = none) (he : PE X e te)
    (s2 : starEach [e] X.env = (false, eval e X.env) :: starEach [] X.env := by rfl) (s1 : starEach [.Call (.Name "set" p2) [e] [] pos2] X.env = (false, eval (.Call (.Name "set" p2) [e] [] pos2) X.env) :: starEach [] X.env := by rfl) :
    PE X (.Call (.Name "sorted" p1) [.Call (.Name "set" p2) [e] [] pos2] [] pos1) (tSortSet te) := by
  have inner : PE X (.Call (.Name "set" p2) [e] [] pos2) (tCB (rSetTx X.w) (tCons (tMn te) tNil)) := pe_callTy (cr_setTx hc) g2 m2 (by decide +kernel) (pa_cons (pe_mn he) pa_nil (hs := s2)) (he := s2)
  have outer : PE X (.Call (.Name "sorted" p1) [.Call (.Name "set" p2) [e] [] pos2] [] pos1) (tCB (rSortedTx X.w) (tCons (tCB (rSetTx X.w) (tCons (tMn te) tNil)) tNil)) := pe_callB (cr_sortedTx hc) g1 m1 (by decide +kernel) (pa_cons inner pa_nil (hs := s1)) (he := s1)
  refine ⟨fun pins s σ H Q I h => outer.run pins s σ H Q I ?_⟩
  refine ⟨_, h, ?_⟩
  rintro v H1 ⟨x, rfl, hx, q⟩
  refine ⟨x, rfl, Nat.le_trans hx (by decide), fun p hp => ?_⟩
  refine ⟨p, _, rfl, upd_same, Nat.lt_of_le_of_lt (SX.metS_len x _) (Nat.lt_of_le_of_lt hx (by decide)), fun ys p9 pm so hq => ?_⟩
  have nq : p9 ≠ p := fun z => by rw [z, upd_same] at hq; cases hq
  exact q p p9 _ ys hp nq (by rw [upd_ne nq] at hq; exact hq) pm so
end
end L2

/-! dicts: what gen.py names for them -/
namespace L2
open PySem PySem.Spec PyProof.Rows
theorem Room.u1 {k : Nat} {A : Around} (r : Room k A) : A.units + 1 < cLine := by have := r.units; omega
theorem Room.u65 {k : Nat} {A : Around} (r : Room k A) : A.units + 65 < cLine := by have := r.un; omega
end L2

/-! sorted(xs) of data that are alike (ints, texts, tuples of them), any number of them: the one stable order -/
namespace L2
open PySem PySem.Spec PyProof.Rows
/-- the items with what they read as, in order -/
def srtD (zs : List (V × PyData)) : List (V × PyData) := zs.mergeSort (PySem.W.dataLe false fun z => z.2)
theorem each_vals {X : Cx} {pins : List (Addr × Obj)} {σ : St} {H : Hp} {s : Shared} (I : Inv X pins σ H s) : ∀ (zs : List (V × PyData)) (us : List Value), Vals (zs.map (·.1)) us → (∀ z ∈ zs, Dp X.K H z.1 z.2) →
    PySem.W.EachIs (fun (u : Value) (z : V × PyData) => RelV z.1 u) us zs ∧ PySem.W.EachIs (fun (u : Value) (z : V × PyData) => ∃ as, Reads s.heap u z.2 as) us zs
  | [], us, r, _ => by
    cases r
    exact ⟨.nil, .nil⟩
  | z :: zs, us, r, hd => by
    cases r with
    | cons r1 r2 =>
      obtain ⟨h1, h2⟩ := each_vals I zs _ r2 fun y hy => hd y (List.mem_cons_of_mem _ hy)
      exact ⟨.cons r1 h1, .cons (Dp.reads I _ _ _ (hd z List.mem_cons_self) r1) h2⟩
theorem vals_each : ∀ (zs : List (V × PyData)) (us : List Value), PySem.W.EachIs (fun (u : Value) (z : V × PyData) => RelV z.1 u) us zs → Vals (zs.map (·.1)) us
  | [], us, r => by
    cases r
    exact .nil
  | z :: zs, us, r => by
    cases r with
    | cons r1 r2 => exact .cons r1 (vals_each zs _ r2)
def rSortedD (K : PySem.W.Frag) : List V → Hp → VK → Prop := fun vs H Q => ∃ (a : Addr) (zs : List (V × PyData)), vs = [V.ref a] ∧ SqL K H a (zs.map (·.1)) ∧ (∀ z ∈ zs, Dp K H z.1 z.2) ∧
  PySem.W.AllAlike (zs.map (·.2)) ∧ PySem.W.Sortable (zs.map (·.2)) ∧ (∀ z ∈ zs, z.2.depth ≤ 8) ∧ ∀ p : Addr, H p = none → Q (.ref p) (upd H p (.lst ((srtD zs).map (·.1))))
theorem cr_sortedD {X : Cx} (hu : X.A.units + 64 < cLine) : CallR X (.builtin "sorted") (rSortedD X.K) := by
  intro pins s σ H vs us Q I r h
  obtain ⟨a, zs, rfl, hs, hd, al, so, dp, q⟩ := h
  obtain ⟨its, rv, hl, hz⟩ := I.list hs
  rw [Vals.ref1 r]
  obtain ⟨e1, e2⟩ := each_vals I zs its rv hd
  have hz2 : zs.length ≤ sizeLine := by rw [List.length_map] at hz; exact hz
  refine PySem.W.sorted_data (enc := fun z : V × PyData => z.2) (bs := zs) hl.isList e1 e2 al so hz2 (fun b hb => by have := dp b hb; omega) fun out hlen eo => ?_
  obtain ⟨ep, he'⟩ := PyProof.Rows.sortedAll_at s.heap its out.toArray
  have hv := vals_each _ _ eo
  have hlen2 : ((srtD zs).map (·.1)).length ≤ sizeLine := by
    have e := hv.length
    show ((zs.mergeSort (PySem.W.dataLe false fun z => z.2)).map (·.1)).length ≤ sizeLine
    rw [e, hlen]
    exact hz2
  exact ⟨.ref _, upd H (s.heap.objs.size + 1) (.lst ((srtD zs).map (·.1))), I.laid (t' := s.toks) (fun _ _ => PyProof.Rows.sortedAll_old) (Nat.le_succ _) ⟨hlen2, out, ep, hv, he'⟩, rfl, q _ (I.hok.fresh (Nat.le_succ _))⟩
/-! ### the order in plain words -/
theorem srtD_perm (zs : List (V × PyData)) : (srtD zs).Perm zs := List.mergeSort_perm _ _
end L2

/-! sorted(xs, key=len) of texts -/
namespace L2
open PySem PySem.Spec PyProof.Rows
/-- texts by their length, stable -/
def srtLen (ss : List Str) : List Str := ss.mergeSort (PySem.W.dataLe false fun x => .int (x.length : Int))
def tSortLen (K : PySem.W.Frag) (te : TE) : TE := fun σ H Q => te σ H fun v H1 => ∃ (a : Addr) (ss : List Str), v = V.ref a ∧ SqL K H1 a (ss.map V.str) ∧ (∀ x ∈ ss, x.length ≤ 1000000) ∧ ∀ p : Addr, H1 p = none → Q (.ref p) (upd H1 p (.lst ((srtLen ss).map V.str)))
theorem vals_strEach : ∀ {ss : List Str} {us : List Value}, Vals (ss.map V.str) us → PySem.W.EachIs (fun (u : Value) (x : Str) => RelV (.str x) u) us ss
  | [], _, .nil => .nil
  | _ :: _, _, .cons r t => .cons r (vals_strEach t)
theorem vals_ofStrEach : ∀ {ss : List Str} {us : List Value}, PySem.W.EachIs (fun (u : Value) (x : Str) => RelV (.str x) u) us ss → Vals (ss.map V.str) us
  | [], _, .nil => .nil
  | _ :: _, _, .cons r t => .cons r (vals_ofStrEach t)
theorem pe_sortLen {X : Cx} {e : Expr} {te : TE} {p1 p2 pos kpos : Pos} (hu : X.A.units + 64 < cLine) (g1 : Gl X "sorted") (m1 : X.mg "sorted" = none) (g2 : Gl X "len") (m2 : X.mg "len" = none) (he : PE X e te)
    (hall : (backToKw pos (keywordEach [⟨some (Str.ofString "key"), .Name "len" p2, kpos⟩] X.env)).all (·.1.isSome) = true := by rfl) (hnone : (backToKw pos (keywordEach [⟨some (Str.ofString "key"), .Name "len" p2, kpos⟩] X.env)).any (·.1.isNone) = false := by rfl)
    (hks : (backToKw pos (keywordEach [⟨some (Str.ofString "key"), .Name "len" p2, kpos⟩] X.env)).filterMap (·.1) = [Str.ofString "key"] := by rfl)
    (hst : starEach [e] X.env = (false, eval e X.env) :: starEach [] X.env := by rfl)
    (hbt : backTo pos (starEach [e] X.env) = (false, eval e X.env) :: backTo pos (starEach [] X.env) := by rfl) (hpl : (backTo pos (starEach [e] X.env)).any (·.1) = false := by rfl) :
    PE X (.Call (.Name "sorted" p1) [e] [⟨some (Str.ofString "key"), .Name "len" p2, kpos⟩] pos) (tSortLen X.K te) := by
  refine ⟨fun pins s σ H Q I h => ?_⟩
  refine wpAny_Call_Name_kw (ld_blt I g1 m1 boot_sorted ?_)
  refine PyProof.Rows.callWith_kw (thn ((pa_cons he pa_nil (hs := hst)).run pos pins s σ H (fun vs H1 => match vs with | [v] => ∃ (a : Addr) (ss : List Str), v = V.ref a ∧ SqL X.K H1 a (ss.map V.str) ∧ (∀ x ∈ ss, x.length ≤ 1000000) ∧ ∀ p : Addr, H1 p = none → Q (.ref p) (upd H1 p (.lst ((srtLen ss).map V.str))) | _ => False) I h) fun us s1 ⟨vs, H1, I1, r1, q1⟩ => ?_) hbt hpl hall hnone
  match vs, r1, q1 with
  | [_], .cons r1 .nil, ⟨a, ss, ev, hs, hlen, q⟩ =>
  subst ev
  cases (show _ = Value.ref a from r1)
  show wpAny _ _ (evalAll ((backToKw pos (keywordEach [⟨some (Str.ofString "key"), .Name "len" p2, kpos⟩] X.env)).map (·.2))) _ _ s1
  show wpAny _ _ (evalAll [(do let v ← eval (.Name "len" p2) X.env; standAt pos; pure v)]) _ _ s1
  refine wpAny_evalAll_cons (wpAny_bind (ld_blt I1 g2 m2 boot_len (wpAny_bind (wpAny_standAt (wpAny_pure ?_)))))
  refine wpAny_evalAll_nil ?_
  rw [hks]
  obtain ⟨its, rv, hl, hz⟩ := I1.list hs
  rw [List.length_map] at hz
  refine PySem.W.sorted_key_data (β := Str) (b := false) (f := .builtin "len") (fun x => .int (x.length : Int)) (R := fun u x => RelV (.str x) u) hl.isList (vals_strEach rv) (fun d hd d' hd' => ?_) (.inr fun d hd => ?_) hz (fun x hx => ?_) (PyProof.Rows.ksk_s1 _ _) (fun _ => PyProof.Rows.ksk_l1 _ _) (fun x => ?_) (fun v x r hx hh tk kp => ?_) fun out c h' tk kp hn ho hlo ei => ?_
  · obtain ⟨x, _, rfl⟩ := List.mem_map.mp hd
    obtain ⟨y, _, rfl⟩ := List.mem_map.mp hd'
    rfl
  · obtain ⟨x, _, rfl⟩ := List.mem_map.mp hd
    exact ⟨(fun z => nomatch z), fun xs z => nomatch z⟩
  · show X.A.units + 2 + (PyData.int (x.length : Int)).depth < cLine
    simp only [PyData.depth]
    omega
  · exact PyProof.Rows.ksk_t4 "len" x
  · obtain ⟨t, rfl⟩ := r
    refine PyProof.Rows.len_str ?_ ⟨hh, _, rfl, fun b o e => e, .int _ _⟩
    have := hlen x hx
    omega
  · have hv := vals_ofStrEach ei
    have hl2 : ((srtLen ss).map V.str).length ≤ sizeLine := by
      have e := hv.length
      show ((ss.mergeSort (PySem.W.dataLe false fun x => .int (x.length : Int))).map V.str).length ≤ sizeLine
      rw [e, hlo]
      exact hz
    exact ⟨.ref _, upd H1 (s1.heap.objs.size + 1) (.lst ((srtLen ss).map V.str)), I1.laid (t' := tk) kp (Nat.le_succ _) ⟨hl2, out, c, hv, ho⟩, rfl, q _ (I1.hok.fresh (Nat.le_succ _))⟩
end L2

/-! sets of data, made from a list or by a comprehension, and sorted(..) of them: one frame for all kinds of members -/
namespace L2
open PySem PySem.Spec PyProof.Rows
namespace SetX
/-- L' is L with m, unless its datum is there -/
def Added {M : Type} (dat : M → PyData) (L : List M) (m : M) (L' : List M) : Prop := ((∃ x ∈ L, dat x = dat m) ∧ L' = L) ∨ ((∀ x ∈ L, dat x ≠ dat m) ∧ L'.Perm (m :: L))
/-- L holds each datum of zs once -/
structure Got {M : Type} (dat : M → PyData) (zs L : List M) : Prop where
  sub : ∀ x ∈ L, x ∈ zs
  all : ∀ z ∈ zs, ∃ x ∈ L, dat x = dat z
  nd : (L.map dat).Nodup
  len : L.length ≤ zs.length
theorem Got.zero {M : Type} {dat : M → PyData} : Got dat [] [] := ⟨fun _ h => h, fun _ h => (nomatch h), List.Pairwise.nil, Nat.le_refl _⟩
theorem Got.step {M : Type} {dat : M → PyData} {zs L L' : List M} {m : M} (g : Got dat zs L) (a : Added dat L m L') : Got dat (zs ++ [m]) L' := by
  rcases a with ⟨⟨x, hx, e⟩, rfl⟩ | ⟨n, p⟩
  · refine ⟨fun y hy => List.mem_append_left _ (g.sub y hy), fun z hz => ?_, g.nd, by rw [List.length_append]; exact Nat.le_trans g.len (Nat.le_add_right _ _)⟩
    rcases List.mem_append.mp hz with h | h
    · exact g.all z h
    · rw [List.mem_singleton.mp h]; exact ⟨x, hx, e⟩
  · refine ⟨fun y hy => ?_, fun z hz => ?_, ?_, by rw [p.length_eq, List.length_append, List.length_cons]; exact Nat.succ_le_succ g.len⟩
    · rcases List.mem_cons.mp (p.mem_iff.mp hy) with h | h
      · rw [h]; exact List.mem_append_right _ List.mem_cons_self
      · exact List.mem_append_left _ (g.sub y h)
    · rcases List.mem_append.mp hz with h | h
      · obtain ⟨x, hx, e⟩ := g.all z h
        exact ⟨x, p.mem_iff.mpr (List.mem_cons_of_mem _ hx), e⟩
      · rw [List.mem_singleton.mp h]; exact ⟨m, p.mem_iff.mpr List.mem_cons_self, rfl⟩
    · refine (p.map dat).nodup_iff.mpr (List.nodup_cons.mpr ⟨fun h => ?_, g.nd⟩)
      obtain ⟨x, hx, e⟩ := List.mem_map.mp h
      exact n x hx e
/-- a kind of members: what they are in a heap, and what the machine does with a set of them -/
structure Kit (P : Program) (w : World) where
  M : Type
  dat : M → PyData
  val : M → V
  Is : Heap → M → Value → Prop
  lim : Nat
  hash : M → Int
  St : Heap → Addr → List M → Prop
  IsH : PySem.W.Frag → Hp → M → Prop
  limOk : lim ≤ sizeLine
  rel : ∀ {h m u}, Is h m u → RelV (val m) u
  keep : ∀ {h h' m u}, Is h m u → (∀ b o, h.get? b = some o → h'.get? b = some o) → Is h' m u
  reads : ∀ {h m u}, Is h m u → Reads h u (dat m) []
  there : ∀ {h a L}, St h a L → ∃ o, h.get? a = some o
  stay : ∀ {h h' a L}, St h a L → (∀ o, h.get? a = some o → h'.get? a = some o) → St h' a L
  fresh : ∀ {h a}, h.get? a = some { cls := .type "set", dict := none, data := .set #[] 0 (.fresh 0 0 (!w.params.followText "set-order")) } → St h a []
  typ : ∀ {s : Shared} {a L}, St s.heap a L → s.TypeIs (.ref a) "set"
  hashing : ∀ {A : Around} {E : Value → Shared → Prop} {s : Shared} {Q : Int → Shared → Prop} {m u}, A.units + 8 < cLine → Is s.heap m u → (∀ tk, s.toks ≤ tk → Q (hash m) { s with toks := tk }) → wpAny (model P w) A (pyHash u) Q E s
  add : ∀ {A : Around} {E : Value → Shared → Prop} {s : Shared} {Q : Bool → Shared → Prop} {a L m u}, A.units + 8 < cLine → St s.heap a L → (∀ x ∈ L, ∃ v, Is s.heap x v) → Is s.heap m u → L.length + 1 < lim →
    (∀ h' b L', Heap.SameBut a s.heap h' → St h' a L' → Added dat L m L' → Q b { s with heap := h' }) → wpAny (model P w) A (setAddHashed a u (hash m)) Q E s
  coll : ∀ {A : Around} {E : Value → Shared → Prop} {s : Shared} {Q : List Value → Shared → Prop} {a L}, A.handled = none → St s.heap a L → L.length < lim → (∀ x ∈ L, ∃ v, Is s.heap x v) →
    (∀ s' vs L', (∀ b o, s.heap.get? b = some o → s'.heap.get? b = some o) → s.heap.objs.size ≤ s'.heap.objs.size → s'.gens = s.gens → s'.os = s.os → L'.Perm L → PySem.W.EachIs (fun v m => Is s.heap m v) vs L' → Q vs s') →
    wpAny (model P w) A (collect (.ref a)) Q E s
  isOf : ∀ {X : Cx} {pins : List (Addr × Obj)} {σ : L2.St} {H : Hp} {s : Shared} {m u}, X.prog = P → X.w = w → Inv X pins σ H s → IsH X.K H m → RelV (val m) u → Is s.heap m u
  keepH : ∀ {K : PySem.W.Frag} {H H' : Hp} {m}, IsH K H m → Same H H' → IsH K H' m
section
variable {P : Program} {w : World} {A : Around} {E : Value → Shared → Prop} {s : Shared} {a : Addr}
/-- set.update's loop over a list of members -/
theorem loop_kit (T : Kit P w) {I : Addr} {fp wr : List Addr} {G : Array GenState → Array GenState → Prop} {n : Nat} {Pv : Nat → Value → Prop} {Sv : Nat → Shared → Prop} {R : Result → Shared → Prop}
    (W : WalksS P w A.in1 I fp wr G n Pv Sv) (D : Addr) (nD : D ∉ fp) (zs : List T.M) (hn : n = zs.length) (bd : zs.length + 1 < T.lim) (g0 : Heap) (hv : ∀ i v, Pv i v → ∃ z, zs[i]? = some z ∧ T.Is g0 z v)
    (hz : ∀ z ∈ zs, ∃ v, T.Is g0 z v) (d0 : g0.get? D = none) (w0 : ∀ b ∈ wr, g0.get? b = none) (hu : A.in1.units + 8 < cLine) :
    ∀ (m i : Nat) (s : Shared), n - i = m → i ≤ n → Sv i s → (∀ b o, g0.get? b = some o → s.heap.get? b = some o) → (∃ L, T.St s.heap D L ∧ Got T.dat (zs.take i) L) →
      (∀ s' L, Moved (D :: wr) G s s' → T.St s'.heap D L → Got T.dat zs L → (∀ b o, g0.get? b = some o → s'.heap.get? b = some o) → R (.ok (.ret .none)) s') →
      codeAny (model P w) A (.builtin "set.update.loop" ⟨[.ref D, .ref I], []⟩) R s := by
  have nw : D ∉ wr := fun z => nD (W.sub _ z)
  have sub : ∀ b ∈ wr, b ∈ D :: wr := fun b z => List.mem_cons_of_mem _ z
  have kpM : ∀ {s s' : Shared}, Moved wr G s s' → (∀ b o, g0.get? b = some o → s.heap.get? b = some o) → ∀ b o, g0.get? b = some o → s'.heap.get? b = some o := fun mv k b o e =>
    mv.heap b o (fun z => by rw [w0 b z] at e; cases e) (k b o e)
  intro m
  induction m with
  | zero =>
    intro i s hm hi st kp ⟨L, hS, g⟩ hR
    have ei : i = n := by omega
    subst ei
    refine codeAny_builtin F.entry_set_update_loop ?_
    rw [Around.under_plainId F.plain_set_update_loop _]
    show wpAny _ A.in1 (pyNext (.ref I) >>= _) _ _ s
    refine wpAny_bind (W.done s _ _ st fun s' mv => wpAny_pure (hR s' L (mv.mono sub) (T.stay hS fun o e => mv.heap D o nw e) ?_ (kpM mv kp)))
    rw [hn, List.take_length] at g
    exact g
  | succ m ih =>
    intro i s hm hi st kp ⟨L, hS, g⟩ hR
    have lt : i < n := by omega
    refine codeAny_builtin F.entry_set_update_loop ?_
    rw [Around.under_plainId F.plain_set_update_loop _]
    show wpAny _ A.in1 (pyNext (.ref I) >>= _) _ _ s
    refine wpAny_bind (W.item i s _ _ lt st fun v s' hP st' mv => ?_)
    obtain ⟨z, ez, iz⟩ := hv i v hP
    have kp' := kpM mv kp
    have hS' := T.stay (h' := s'.heap) hS fun o e => mv.heap D o nw e
    show wpAny _ A.in1 (holding [v] (setAdd D v) >>= _) _ _ s'
    refine wpAny_bind (wpAny_holding ?_)
    unfold setAdd
    refine wpAny_holding (wpAny_bind (T.hashing hu (T.keep iz kp') fun tk ht => ?_))
    refine T.add (s := { s' with toks := tk }) hu hS' (fun x hx => ?_) (T.keep iz kp') (by have := g.len; rw [List.length_take] at this; omega) fun h' b L' sb hS2 ad => ?_
    · obtain ⟨u, q⟩ := hz x (List.mem_of_mem_take (g.sub x hx))
      exact ⟨u, T.keep q kp'⟩
    have g2 := g.step ad
    have et : zs.take i ++ [z] = zs.take (i + 1) := by
      obtain ⟨hi2, e2⟩ := List.getElem?_eq_some_iff.mp ez
      rw [List.take_succ_eq_append_getElem hi2, e2]
    rw [et] at g2
    have kp2 : ∀ b o, g0.get? b = some o → h'.get? b = some o := fun b o e => (sb.2 b (fun q => by rw [q, d0] at e; cases e)).trans (kp' b o e)
    refine wpAny_pure ⟨plainId_quiet F.plain_set_update_loop _, ih (i + 1) _ (by omega) lt (W.frame _ s' _ _ st' ht fun b hb o e => ?_) kp2 ⟨L', hS2, g2⟩ fun s2 L2 mv2 hS3 g3 kp3 => ?_⟩
    · rw [sb.2 b (fun q : b = D => nD (by rw [← q]; exact hb))]
      exact e
    · refine hR s2 L2 (Moved.trans W.gtrans ((mv.mono sub).then_heap ht fun b o hb e => ?_) mv2) hS3 g3 kp3
      rw [sb.2 b (fun q : b = D => hb (by rw [q]; exact List.mem_cons_self))]
      exact e
set_option maxHeartbeats 6400000 in
theorem set_of_list (T : Kit P w) {l : Addr} {its : Array Value} (zs : List T.M) {Q : Value → Shared → Prop} (hh : A.handled = none) (hl : s.heap.IsList l its) (he : PySem.W.EachIs (fun v m => T.Is s.heap m v) its.toList zs)
    (bd : zs.length + 1 < T.lim) (hu : A.units + 12 < cLine)
    (q : ∀ (h' : Heap) (tk : Nat) L, T.St h' s.heap.objs.size L → Got T.dat zs L → (∀ b o, s.heap.get? b = some o → h'.get? b = some o) → Q (.ref s.heap.objs.size) { s with heap := h', toks := tk }) :
    wpAny (model P w) A (call (.type "set") [.ref l]) Q E s := by
  have zl : its.size = zs.length := by rw [← Array.length_toList]; exact he.length
  obtain ⟨c, tl, hmro⟩ := F.called_set.mro
  have k1 := F.called_set.made
  have k2 := F.called_set.sub
  refine wpAny_call (codeAny_of_tree ?_)
  show wpAny _ _ (callAny (.type "set") _) _ _ _
  refine wpAny_pure ⟨Code.quiet_builtin _ (by decide +kernel), codeAny_builtin F.entry_type_call ?_⟩
  rw [Around.under_plain (weight_type_call_type "set" [.ref l] []) rfl]
  have k3 := F.called_set.notType
  have k4 := F.called_set.canCreate
  have k5 := F.typeCall_set_1 (.ref l)
  repeat (any_goals (first | assumption | wp_step))
  refine codeAny_mono (code_set_led1 (.ref l) (E := E) (Q₁ := fun ob s9 => ob = .ref s.heap.objs.size ∧ s9 = { s with heap := s.heap.push { cls := .type "set", dict := none, data := .set #[] 0 (.fresh 0 0 (!w.params.followText "set-order")) } }) ⟨rfl, rfl⟩) fun r s9 hr => ?_
  cases r with
  | error e => exact hr
  | ok fl =>
    cases fl with
    | ret ob =>
      obtain ⟨rfl, rfl⟩ := hr
      have oS : (s.heap.push { cls := .type "set", dict := none, data := .set #[] 0 (.fresh 0 0 (!w.params.followText "set-order")) }).get? s.heap.objs.size = some { cls := .type "set", dict := none, data := .set #[] 0 (.fresh 0 0 (!w.params.followText "set-order")) } := Heap.get?_push_size _ rfl
      have tS : Shared.TypeIs { s with heap := s.heap.push { cls := .type "set", dict := none, data := .set #[] 0 (.fresh 0 0 (!w.params.followText "set-order")) } } (.ref s.heap.objs.size) "set" := ⟨_, oS, rfl⟩
      have k6 := F.called_set.init.lookup
      have k7 := F.called_set.init.bind (.ref s.heap.objs.size)
      repeat (any_goals (first | assumption | wp_step))
      refine codeAny_mono (codeAny_call_builtin (R := wants (fun r s2 => r = .none ∧ ∃ h' tk L, s2 = { s with heap := h', toks := tk } ∧ T.St h' s.heap.objs.size L ∧ Got T.dat zs L ∧
          (∀ b o, s.heap.get? b = some o → h'.get? b = some o)) E) F.called_set.init.plain F.entry_set_init (check_set_init_1 tS ?_)) fun r2 s2 hr2 => ?_
      · obtain ⟨lo, glo, lcl, ln, ldt⟩ := hl
        obtain ⟨lc, ld, lda, lsl⟩ := lo
        simp only at lcl ldt
        subst lcl; subst ldt
        have glo2 : (s.heap.push { cls := .type "set", dict := none, data := .set #[] 0 (.fresh 0 0 (!w.params.followText "set-order")) }).get? l = some { cls := .type "list", dict := ld, data := .seq its ln, slots := lsl } := Heap.get?_push_of_some _ glo
        have k8 := F.sub_list_set
        have k9 := F.sub_list_frozenset
        have ne : (Value.type "list" == Value.type "dict") = false := by decide
        have il : (s.heap.push { cls := .type "set", dict := none, data := .set #[] 0 (.fresh 0 0 (!w.params.followText "set-order")) }).IsList l its := ⟨_, glo2, rfl, ln, rfl⟩
        unfold Builtin.«set.__init__» noKeywords Builtin.Frozenset.updateFrom
        generalize hPI : pyIter = PI
        wp_walk
        subst hPI
        refine wpAny_pyIter_list il ?_
        refine wpAny_bind (wpAny_runValue ?_)
        have llt : l < s.heap.objs.size := Heap.lt_size glo
        have h3 : A.in1.in1.in1.handled = none := by simp [hh]
        generalize hH : s.heap.push { cls := .type "set", dict := none, data := .set #[] 0 (.fresh 0 0 (!w.params.followText "set-order")) } = H at il oS glo2 ⊢
        have hz : H.objs.size = s.heap.objs.size + 1 := by rw [← hH, Heap.size_push]
        have neI : l ≠ H.objs.size := by rw [hz]; exact Nat.ne_of_lt (Nat.lt_succ_of_lt llt)
        have nD : s.heap.objs.size ∉ [H.objs.size, l] := fun z => by
          rcases List.mem_cons.mp z with z | z
          · rw [hz] at z
            exact Nat.ne_of_lt (Nat.lt_succ_self _) z
          · exact Nat.ne_of_gt llt (List.mem_singleton.mp z)
        have up : ∀ b o, s.heap.get? b = some o → H.get? b = some o := fun b o e => by rw [← hH]; exact Heap.get?_push_of_some _ e
        have hole : ∀ b, s.heap.objs.size ≤ b → s.heap.get? b = none := fun b hb => Heap.get?_none_of_le hb
        refine loop_kit T ((Walks.list h3 _ l neI its).toS) s.heap.objs.size nD zs zl bd s.heap (fun i v e => ?_) (fun z hzm => ?_) (hole _ (Nat.le_refl _)) (fun b hb => hole b ?_) (by simp only [Around.in1_units]; omega)
          (its.size - 0) 0 _ rfl (Nat.zero_le _) ⟨⟨_, Heap.get?_push_size _ rfl, rfl, rfl⟩, il.push _⟩ (fun b o e => Heap.get?_push_of_some _ (up b o e)) ⟨[], T.fresh (Heap.get?_push_of_some _ oS), Got.zero⟩ fun s' L mv hS' g' kp => ?_
        · have e : its[i]? = some v := e
          have e2 : its.toList[i]? = some v := by rw [Array.getElem?_toList]; exact e
          have hi : i < its.toList.length := (List.getElem?_eq_some_iff.mp e2).1
          have hi2 : i < zs.length := by rw [← he.length]; exact hi
          refine ⟨zs[i], List.getElem?_eq_getElem hi2, ?_⟩
          exact he.zip (v, zs[i]) (List.mem_of_getElem? (i := i) (by rw [List.getElem?_zip_eq_some]; exact ⟨e2, List.getElem?_eq_getElem hi2⟩))
        · obtain ⟨i, hi, e⟩ := List.mem_iff_getElem.mp hzm
          have hi2 : i < its.toList.length := by rw [he.length]; exact hi
          exact ⟨its.toList[i], he.zip (its.toList[i], z) (List.mem_of_getElem? (i := i) (by rw [List.getElem?_zip_eq_some]; exact ⟨List.getElem?_eq_getElem hi2, by rw [← e]; exact List.getElem?_eq_getElem hi⟩))⟩
        · rw [List.mem_singleton.mp hb, hz]
          exact Nat.le_succ _
        · obtain ⟨h', g2, d2, tk2, os2⟩ := s'
          have eg : g2 = s.gens := mv.gens
          have ed : d2 = s.drawn := mv.drawn
          have eo : os2 = s.os := mv.os
          subst eg; subst ed; subst eo
          exact wpAny_pure (wpAny_pure ⟨rfl, h', tk2, L, rfl, hS', g', kp⟩)
      · cases r2 with
        | error e => exact hr2
        | ok f2 =>
          cases f2 with
          | ret r =>
            obtain ⟨rfl, h', tk, L, rfl, hS', g', kp⟩ := hr2
            repeat (any_goals (first | assumption | wp_step))
            exact q _ _ _ hS' g' kp
          | _ => exact hr2.elim
    | _ => exact hr.elim
theorem each_perm {α β : Type} {R : α → β → Prop} {vs : List α} {L : List β} (e : PySem.W.EachIs R vs L) : vs.length = L.length := e.length
theorem sorted_kit (T : Kit P w) {L : List T.M} {Q : Value → Shared → Prop} (R : T.St s.heap a L) (hI : ∀ x ∈ L, ∃ v, T.Is s.heap x v) (hh : A.handled = none) (few : L.length < T.lim) (hu : A.units + 12 < cLine)
    (al : PySem.W.AllAlike (L.map T.dat)) (so : PySem.W.Sortable (L.map T.dat)) (dp : ∀ x ∈ L, (T.dat x).depth ≤ 4)
    (q : ∀ s' p (out : List Value) (c : Nat) (L' : List T.M), (∀ b o, s.heap.get? b = some o → s'.heap.get? b = some o) → s'.gens = s.gens → s'.os = s.os → s.heap.objs.size ≤ p →
      s'.heap.get? p = some (seqObj "list" out.toArray c) → L'.Perm L → PySem.W.EachIs (fun v m => RelV (T.val m) v) out (L'.mergeSort (PySem.W.dataLe false T.dat)) → Q (.ref p) s') :
    wpAny (model P w) A (call (.builtin "sorted") [.ref a]) Q E s := by
  refine Calls.call_function_entry kind_sorted plain_sorted entry_sorted (args_sorted1 _) ?_
  unfold Builtin.«sorted»
  refine wpAny_bind (m := checkCount "sorted" 1 1 _) (wpAny_pure ?_)
  refine wpAny_bind (T.coll (A := A.in1) hh R few hI fun s1 vs L1 k1 hz g1 o1 pm ei => ?_)
  have vl : vs.length = L.length := by rw [ei.length, pm.length_eq]
  have zl : vs.length ≤ sizeLine := by rw [vl]; exact Nat.le_trans (Nat.le_of_lt few) T.limOk
  refine wpAny_bind (wpAny_newList ?_ zl)
  have oL : (s1.heap.push (seqObj "list" vs.toArray 0)).get? s1.heap.objs.size = some (seqObj "list" vs.toArray 0) := Heap.get?_push_size _ rfl
  have up : ∀ b o, s.heap.get? b = some o → (s1.heap.push (seqObj "list" vs.toArray 0)).get? b = some o := fun b o e => Heap.get?_push_of_some _ (k1 b o e)
  have al1 : PySem.W.AllAlike (L1.map T.dat) := fun d hd d' hd' => al d ((pm.map T.dat).mem_iff.mp hd) d' ((pm.map T.dat).mem_iff.mp hd')
  have so1 : PySem.W.Sortable (L1.map T.dat) := by
    rcases so with z | z
    · exact .inl fun d hd => z d ((pm.map T.dat).mem_iff.mp hd)
    · exact .inr fun d hd => z d ((pm.map T.dat).mem_iff.mp hd)
  have er : PySem.W.EachIs (fun v (m : T.M) => (∃ as, Reads (s1.heap.push (seqObj "list" vs.toArray 0)) v (T.dat m) as ∧ s1.heap.objs.size ∉ as)) vs L1 := by
    exact ei.mono fun v m i => ⟨[], PyProof.Rows.Reads.keeps up (T.reads i), by simp⟩
  refine wpAny_bind (wpAny_holding (PySem.W.list_sort_data (A := A.in1) (s := { s1 with heap := s1.heap.push (seqObj "list" vs.toArray 0) }) (enc := T.dat) (bs := L1) (R := fun v m => RelV (T.val m) v) oL (ei.mono fun v m i => T.rel i) er al1 so1 (by rw [pm.length_eq]; omega)
    (fun b hb => by have := dp b (pm.mem_iff.mp hb); show A.units + 1 + 1 + (T.dat b).depth < cLine; omega) fun out hlen eo => ?_))
  obtain ⟨c, hc⟩ := sortedHeap_at (vs := vs) (out := out.toArray) oL
  refine wpAny_pure ⟨_, rfl, q _ s1.heap.objs.size out c L1 (fun b u e => ?_) g1 o1 hz hc pm eo⟩
  have e1 := k1 b u e
  have lt := Heap.lt_size e1
  show (sortedHeap (s1.heap.push (seqObj "list" vs.toArray 0)) s1.heap.objs.size vs _).get? b = some u
  rw [sortedHeap_old (Nat.ne_of_lt lt) (by rw [size_push']; exact Nat.lt_succ_of_lt lt)]
  exact Heap.get?_push_of_some _ e1
end
end SetX
end L2

/-! sets of ints and texts as a Kit -/
namespace L2
open PySem PySem.Spec PyProof.Rows
namespace SetX
def kD : Key → PyData
  | .inl i => .int i
  | .inr x => .str x
theorem kD_inj {k j : Key} (h : kD k = kD j) : k = j := by
  cases k <;> cases j <;> simp [kD] at h
  · rw [h]
  · rw [h]
theorem keyIs_rel {k : Key} {u : Value} (h : keyIs k u = true) : RelV (kV k) u := by
  rcases keyIs_shape h with ⟨i, t, rfl, rfl⟩ | ⟨x, t, rfl, rfl⟩
  · exact ⟨t, rfl⟩
  · exact ⟨t, rfl⟩
theorem rel_keyIs {k : Key} {u : Value} (h : RelV (kV k) u) : keyIs k u = true := by
  cases k with
  | inl i => obtain ⟨t, rfl⟩ := h; exact keyIs_int i t
  | inr x => obtain ⟨t, rfl⟩ := h; exact keyIs_str x t
theorem keyIs_reads {h : Heap} {k : Key} {u : Value} (e : keyIs k u = true) : Reads h u (kD k) [] := by
  rcases keyIs_shape e with ⟨i, t, rfl, rfl⟩ | ⟨x, t, rfl, rfl⟩
  · exact .int i t
  · exact .str x t
def GdK (w : World) (e : Int × Value) : Prop := ∃ k, keyIs k e.2 = true ∧ e.1 = keyH w k
def unK (e : Int × Value) : Key := match e.2 with | .int i _ => .inl i | .str x _ => .inr x | _ => .inl 0
theorem unK_of {k : Key} {e : Int × Value} (h : keyIs k e.2 = true) : unK e = k := by
  unfold unK
  rcases keyIs_shape h with ⟨i, t, rfl, q⟩ | ⟨x, t, rfl, q⟩ <;> rw [q]
/-- a set of keys: its members, in the table's order -/
def SetKs (w : World) (h : Heap) (a : Addr) (ks : List Key) : Prop :=
  ∃ o es ep t, h.get? a = some o ∧ o.ExactSet ∧ o.data = .set es ep t ∧ (∀ e ∈ es.toList, GdK w e) ∧ (es.toList.map unK).Perm ks ∧ ks.Nodup ∧
    es.size < scanBound ∧ t.fits es.size = true ∧ Ris t.place.toList ∧ (w.params.followText "set-order" = true ∨ t.led = true)
section
variable {P : Program} {w : World} {A : Around} {E : Value → Shared → Prop} {s : Shared} {a : Addr} {ks : List Key}
theorem gdK_elems {l : List (Int × Value)} (g : ∀ e ∈ l, GdK w e) : ElemsOf (mixKind P w) l := fun e he => by
  obtain ⟨k, e1, e2⟩ := g e he
  refine ⟨⟨k, e1, e2⟩, ?_⟩
  rcases keyIs_shape e1 with ⟨i, t, _, q⟩ | ⟨x, t, _, q⟩ <;> rw [q] <;> rfl
theorem gdK_is {e : Int × Value} (g : GdK w e) (k : Key) : (mixKind P w).is k e.2 = true ↔ unK e = k := by
  obtain ⟨j, e1, _⟩ := g
  rw [unK_of e1, mixKind_is]
  constructor
  · intro q
    exact (mixKind P w).inj _ _ _ e1 q
  · intro q
    rw [← q]
    exact e1
theorem gdK_mem {l : List (Int × Value)} (g : ∀ e ∈ l, GdK w e) (k : Key) : k ∈ l.map unK ↔ ∃ e ∈ l, (mixKind P w).is k e.2 = true := by
  rw [List.mem_map]
  exact ⟨fun ⟨e, he, q⟩ => ⟨e, he, (gdK_is (g e he) k).2 q⟩, fun ⟨e, he, q⟩ => ⟨e, he, (gdK_is (g e he) k).1 q⟩⟩
theorem addK_end {g : Bool → Sem Unit} (gq : ∀ (b : Bool) (s9 : Shared) (Q9 : Unit → Shared → Prop), Q9 () s9 → wpAny (model P w) A (g b) Q9 E s9)
    {o : Obj} {es : Array (Int × Value)} {ep : Nat} {t : SetTable} (oa : s.heap.get? a = some o) (ox : o.ExactSet) (od : o.data = .set es ep t)
    {e1 : Array (Int × Value)} {t2 : SetTable} {ls : List Key} (q1 : ∀ e ∈ e1.toList, GdK w e) (q2 : (e1.toList.map unK).Perm ls) (q3 : ls.Nodup)
    (q4 : e1.size < scanBound) (q5 : t2.fits e1.size = true) (q6 : Ris t2.place.toList) (q7 : w.params.followText "set-order" = true ∨ t2.led = true) {wd : Bool} {R : Option Bool → Shared → Prop}
    (qR : ∀ h', Heap.SameBut a s.heap h' → SetKs w h' a ls → R (some true) { s with heap := h' }) :
    wpAny (model P w) A (do
        storeSet a e1 t2
        if (!wd && t2.tooFull) = true then do
            g (relayAll t2 e1 (SetTable.grown e1.size)).2.2
            storeSet a (relayAll t2 e1 (SetTable.grown e1.size)).1 (relayAll t2 e1 (SetTable.grown e1.size)).2.1
            pure (some true)
          else pure (some true)) R E s := by
  refine wpAny_bind (wpAny_storeSet_of oa od ?_ (fits_of_scanBound q4))
  have o1 := store_at (es' := e1) (t' := t2) oa od
  have b1 := Heap.SameBut.update s.heap a (Obj.putSet e1 t2)
  split
  · have p0 := relayAll_perm t2 e1 (SetTable.grown e1.size)
    have p1 := relayAll_fits t2 e1 (SetTable.grown e1.size)
    have p2 := relayAll_ris t2 e1 (SetTable.grown e1.size)
    have p3 := relayAll_led t2 e1 (SetTable.grown e1.size)
    generalize relayAll t2 e1 (SetTable.grown e1.size) = Y at p0 p1 p2 p3 ⊢
    obtain ⟨e2, t3, gv⟩ := Y
    dsimp only at p0 p1 p2 p3 ⊢
    have sz : e2.size = e1.size := by rw [← Array.length_toList, p0.length_eq, Array.length_toList]
    have sb : e2.size < scanBound := by rw [sz]; exact q4
    refine wpAny_bind (gq _ _ _ (wpAny_bind (wpAny_storeSet_of o1 rfl ?_ (fits_of_scanBound sb))))
    have o2 := store_at (es' := e2) (t' := t3) o1 rfl
    refine wpAny_pure (qR _ (b1.trans (Heap.SameBut.update _ a _)) ⟨_, e2, _, t3, o2, ox, rfl, fun e he => q1 e (p0.mem_iff.mp he), (p0.map unK).trans q2, q3, sb, p1, p2, ?_⟩)
    rcases q7 with z | z
    · exact .inl z
    · exact .inr (by rw [p3]; exact z)
  · exact wpAny_pure (qR _ b1 ⟨_, e1, _, t2, o1, ox, rfl, q1, q2, q3, q4, q5, q6, q7⟩)
theorem addK_one {k : Key} {u : Value} {Q : Bool → Shared → Prop} (R : SetKs w s.heap a ks) (hk : keyIs k u = true) (room : ks.length + 1 < scanBound)
    (qQ : ∀ h' b L', Heap.SameBut a s.heap h' → SetKs w h' a L' → Added kD ks k L' → Q b { s with heap := h' }) :
    wpAny (model P w) A (setAddHashed a u (keyH w k)) Q E s := by
  obtain ⟨o, es, ep, t, oa, ox, od, g, pm, nd, sbd, ft, ri, ld⟩ := R
  have isx : (mixKind P w).is k u = true := hk
  have scx : u.scannable = true := key_scan (keyIs_rel hk)
  have els : ElemsOf (mixKind P w) es.toList := gdK_elems g
  have esz : es.size = ks.length := by have := pm.length_eq; rw [List.length_map, Array.length_toList] at this; exact this
  unfold setAddHashed setAddHashedIn
  refine wpAny_holding (wpAny_bind (wpAny_setState_of oa od ft ?_))
  dsimp only
  rw [byScan_of scx sbd els]
  simp only [↓reduceIte]
  unfold setAddByScan
  refine wpAny_bind (wpAny_bind (wpAny_rule ?_))
  refine wpAny_bind (wpAny_setScan_of (knd := mixKind P w) isx oa od ft els ?_)
  cases hf : List.findIdx? (fun e => (mixKind P w).is k e.2) es.toList with
  | some j =>
    dsimp only
    obtain ⟨hj, pj, _⟩ := List.findIdx?_eq_some_iff_getElem.mp hf
    have inx : k ∈ ks := pm.mem_iff.mp ((gdK_mem (P := P) g k).2 ⟨es.toList[j], List.getElem_mem hj, pj⟩)
    refine wpAny_pure (wpAny_pure ?_)
    exact qQ s.heap false ks (Heap.SameBut.refl a s.heap) ⟨o, es, ep, t, oa, ox, od, g, pm, nd, sbd, ft, ri, ld⟩ (.inl ⟨⟨k, inx, rfl⟩, rfl⟩)
  | none =>
    dsimp only
    have nox : k ∉ es.toList.map unK := fun z => by
      obtain ⟨e, he, q⟩ := (gdK_mem (P := P) g k).1 z
      have c := List.findIdx?_eq_none_iff.mp hf e he
      rw [q] at c
      cases c
    have nok : k ∉ ks := fun z => nox (pm.mem_iff.mpr z)
    have gwy : ∀ (b : Bool) {s9 : Shared} {Q9 : Unit → Shared → Prop}, Q9 () s9 → wpAny (model P w) A (match b with | true => rule "set.scan.the-table-gave-way" | false => pure ()) Q9 E s9 := fun b s9 Q9 q => by
      cases b
      · exact wpAny_pure q
      · exact wpAny_rule q
    have l0 := layNew_perm t es (keyH w k) u
    have l1 := layNew_fits t es (keyH w k) u
    have l2 := layNew_ris t es (keyH w k) u ri
    have l3 := layNew_led t es (keyH w k) u
    show wpAny (model P w) A _ _ E s
    have eh : (mixKind P w).hash k = keyH w k := rfl
    generalize layNew t es (keyH w k) u = Y at l0 l1 l2 l3 ⊢
    obtain ⟨e1, t1, wd, gv⟩ := Y
    dsimp only at l0 l1 l2 l3 ⊢
    rw [Array.toList_push] at l0
    have lc : e1.toList.Perm ((keyH w k, u) :: es.toList) := l0.trans (List.perm_append_singleton _ _)
    have lk : (e1.toList.map unK).Perm (k :: ks) := by
      refine (lc.map unK).trans ?_
      rw [List.map_cons, unK_of (e := (keyH w k, u)) hk]
      exact List.Perm.cons k pm
    have g1 : ∀ e ∈ e1.toList, GdK w e := fun e he => by
      rcases List.mem_cons.mp (lc.mem_iff.mp he) with z | z
      · exact ⟨k, by rw [z]; exact hk, by rw [z]⟩
      · exact g e z
    have n1 : (k :: ks).Nodup := List.nodup_cons.mpr ⟨nok, nd⟩
    have z1 : e1.size = es.size + 1 := by rw [← Array.length_toList, lc.length_eq, List.length_cons, Array.length_toList]
    have b1 : e1.size < scanBound := by rw [z1, esz]; exact room
    have d1 : w.params.followText "set-order" = true ∨ t1.led = true := by
      rcases ld with z | z
      · exact .inl z
      · exact .inr (by rw [l3]; exact z)
    have ad : Added kD ks k (k :: ks) := .inr ⟨fun x hx e => nok (kD_inj e ▸ hx), List.Perm.refl _⟩
    refine wpAny_bind (gwy _ ?_)
    split
    · refine wpAny_bind ?_
      rw [hashByValue_scannable 8 scx]
      refine wpAny_pure ?_
      refine addK_end (ls := k :: ks) ?_ oa ox od g1 lk n1 b1 ?_ ?_ ?_ ?_
      · intro b s9 Q9 q
        cases b
        · exact wpAny_pure q
        · exact wpAny_rule q
      · first | (split <;> first | exact l1 | exact SetTable.fits_plain_off l1) | exact l1
      · first | (split <;> exact l2) | exact l2
      · first | (split <;> exact d1) | exact d1
      · intro h' sb r
        dsimp only
        exact wpAny_pure (qQ h' true _ sb r ad)
    · refine wpAny_bind (wpAny_pure ?_)
      simp only [↓reduceIte]
      refine addK_end (ls := k :: ks) ?_ oa ox od g1 lk n1 b1 l1 l2 d1 ?_
      · intro b s9 Q9 q
        cases b
        · exact wpAny_pure q
        · exact wpAny_rule q
      · intro h' sb r
        dsimp only
        exact wpAny_pure (qQ h' true _ sb r ad)
theorem freshK {h : Heap} (oa : h.get? a = some { cls := .type "set", dict := none, data := .set #[] 0 (.fresh 0 0 (!w.params.followText "set-order")) }) : SetKs w h a [] :=
  ⟨_, #[], 0, _, oa, ⟨rfl, rfl, rfl⟩, rfl, (fun e he => by simp at he), by simp, by simp, by decide, by rfl, List.Pairwise.nil, by
    show _ ∨ (!w.params.followText "set-order") = true
    cases w.params.followText "set-order" with
    | false => exact .inr rfl
    | true => exact .inl rfl⟩
theorem each_unK : ∀ (vs : List Value), (∀ v ∈ vs, ∃ k, keyIs k v = true) → PySem.W.EachIs (fun (v : Value) (k : Key) => keyIs k v = true) vs (vs.map fun v => unK (0, v))
  | [], _ => .nil
  | v :: vs, h => by
    obtain ⟨k, e⟩ := h v List.mem_cons_self
    refine .cons ?_ (each_unK vs fun u hu => h u (List.mem_cons_of_mem _ hu))
    show keyIs (unK (0, v)) v = true
    rw [unK_of (e := ((0 : Int), v)) e]
    exact e
theorem collK {Q : List Value → Shared → Prop} (hh : A.handled = none) (R : SetKs w s.heap a ks) 
    (q : ∀ s' vs L', (∀ b o, s.heap.get? b = some o → s'.heap.get? b = some o) → s.heap.objs.size ≤ s'.heap.objs.size → s'.gens = s.gens → s'.os = s.os → L'.Perm ks → PySem.W.EachIs (fun (v : Value) (k : Key) => keyIs k v = true) vs L' → Q vs s') :
    wpAny (model P w) A (collect (.ref a)) Q E s := by
  obtain ⟨o, es, ep, t, oa, ox, od, g, pm, nd, sbd, ft, ri, ld⟩ := R
  refine collect_set (A := A) hh ⟨o, oa, ox.1, od⟩ ft sbd ri ld fun s1 vs k1 hz g1 o1 vp => ?_
  refine q s1 vs (vs.map fun v => unK (0, v)) k1 hz g1 o1 ?_ (each_unK vs fun v hv => ?_)
  · have z := vp.map fun v => unK (0, v)
    rw [List.map_map] at z
    exact z.trans pm
  · obtain ⟨e, he, z⟩ := List.mem_map.mp (vp.mem_iff.mp hv)
    obtain ⟨k, e1, _⟩ := g e he
    exact ⟨k, by rw [← z]; exact e1⟩
end
def kitK (P : Program) (w : World) : Kit P w where
  M := Key
  dat := kD
  val := kV
  Is := fun _ k u => keyIs k u = true
  lim := scanBound
  hash := keyH w
  St := SetKs w
  IsH := fun _ _ _ => True
  limOk := by rw [sizeLine_eq]; decide
  rel := fun h => keyIs_rel h
  keep := fun h _ => h
  reads := fun h => keyIs_reads h
  there := fun ⟨o, _, _, _, h, _⟩ => ⟨o, h⟩
  stay := fun ⟨o, es, ep, t, g, r⟩ k => ⟨o, es, ep, t, k o g, r⟩
  fresh := freshK
  typ := fun ⟨o, _, _, _, g, x, _⟩ => ⟨o, g, x.1⟩
  hashing := fun {A E s Q m u} _ h q => (mixKind P w).pyHash (k := m) h (q _ (Nat.le_succ _))
  add := fun {A E s Q a L m u} _ R _ h room q => addK_one R h room q
  coll := fun {A E s Q a L} hh R _ _ q => collK hh R q
  isOf := fun _ _ _ _ r => rel_keyIs r
  keepH := fun _ _ => trivial
end SetX
end L2

/-! the hand layer's rules for sets of data: set(list), sorted(set(list)), sorted({.. for ..}), sorted({.. for .. for ..}) -/
namespace L2
open PySem PySem.Spec PyProof.Rows
namespace SetX
/-- what a reading must know of the members -/
structure Mem where
  M : Type
  dat : M → PyData
  val : M → V
  IsH : PySem.W.Frag → Hp → M → Prop
  lim : Nat
def memK : Mem := ⟨Key, kD, kV, fun _ _ _ => True, scanBound⟩
def Kit.mem {P : Program} {w : World} (T : Kit P w) : Mem := ⟨T.M, T.dat, T.val, T.IsH, T.lim⟩
theorem memK_eq (P : Program) (w : World) : (kitK P w).mem = memK := rfl
def SetHO {P : Program} {w : World} (T : Kit P w) (a : Addr) (L : List T.M) : HO := .ext fun h => T.St h a L
theorem setHO_new {P : Program} {w : World} {T : Kit P w} {H : Hp} {h : Heap} {a : Addr} {L : List T.M} (R : T.St h a L) : ObjOk P w H h a (SetHO T a L) := ⟨R, T.there R, fun _ _ p k => T.stay p k⟩
theorem relV_some : ∀ v : V, ∃ u, RelV v u
  | .non => ⟨_, rfl⟩
  | .bl _ => ⟨_, rfl⟩
  | .int i => ⟨.int i 0, 0, rfl⟩
  | .str x => ⟨.str x 0, 0, rfl⟩
  | .byt b => ⟨.bytes b 0, 0, rfl⟩
  | .flt b => ⟨.float b 0, 0, rfl⟩
  | .ref a => ⟨_, rfl⟩
  | .ty n => ⟨_, rfl⟩
/-- the members of L, in order -/
def srt (B : Mem) (L : List B.M) : List B.M := L.mergeSort (PySem.W.dataLe false B.dat)
/-- they can be compared -/
structure Cmpb (B : Mem) (L : List B.M) : Prop where
  al : PySem.W.AllAlike (L.map B.dat)
  so : PySem.W.Sortable (L.map B.dat)
  dp : ∀ x ∈ L, (B.dat x).depth ≤ 4
theorem Cmpb.sub {B : Mem} {L L' : List B.M} (h : Cmpb B L) (s : ∀ x ∈ L', x ∈ L) : Cmpb B L' where
  al := fun d hd d' hd' => by
    obtain ⟨x, hx, e⟩ := List.mem_map.mp hd
    obtain ⟨y, hy, e'⟩ := List.mem_map.mp hd'
    exact h.al d (List.mem_map.mpr ⟨x, s x hx, e⟩) d' (List.mem_map.mpr ⟨y, s y hy, e'⟩)
  so := by
    rcases h.so with z | z
    · exact .inl fun d hd => by
        obtain ⟨x, hx, e⟩ := List.mem_map.mp hd
        exact z d (List.mem_map.mpr ⟨x, s x hx, e⟩)
    · exact .inr fun d hd => by
        obtain ⟨x, hx, e⟩ := List.mem_map.mp hd
        exact z d (List.mem_map.mpr ⟨x, s x hx, e⟩)
  dp := fun x hx => h.dp x (s x hx)
section
variable {X : Cx}
theorem each_is (T : Kit X.prog X.w) {pins : List (Addr × Obj)} {σ : L2.St} {H : Hp} {s : Shared} (I : Inv X pins σ H s) : ∀ (zs : List T.M) (us : List Value), Vals (zs.map T.val) us → (∀ z ∈ zs, T.IsH X.K H z) →
    PySem.W.EachIs (fun (u : Value) (m : T.M) => T.Is s.heap m u) us zs
  | [], us, r, _ => by cases r; exact .nil
  | z :: zs, us, r, h => by
    cases r with
    | cons r1 r2 => exact .cons (T.isOf rfl rfl I (h z List.mem_cons_self) r1) (each_is T I zs _ r2 fun y hy => h y (List.mem_cons_of_mem _ hy))
theorem some_is (T : Kit X.prog X.w) {pins : List (Addr × Obj)} {σ : L2.St} {H : Hp} {s : Shared} (I : Inv X pins σ H s) {m : T.M} (h : T.IsH X.K H m) : ∃ v, T.Is s.heap m v := by
  obtain ⟨u, r⟩ := relV_some (T.val m)
  exact ⟨u, T.isOf rfl rfl I h r⟩
theorem vals_of_each (T : Kit X.prog X.w) : ∀ {L : List T.M} {us : List Value}, PySem.W.EachIs (fun (u : Value) (m : T.M) => RelV (T.val m) u) us L → Vals (L.map T.val) us
  | [], _, .nil => .nil
  | _ :: _, _, .cons r t => .cons r (vals_of_each T t)
/-- set(xs) -/
def rSetL (K : PySem.W.Frag) {P : Program} {w : World} (T : Kit P w) : List V → Hp → VK → Prop := fun vs H Q => ∃ (l : Addr) (zs : List T.M), vs = [V.ref l] ∧ SqL K H l (zs.map T.val) ∧ (∀ z ∈ zs, T.IsH K H z) ∧ zs.length + 1 < T.lim ∧
  ∀ p L, H p = none → Got T.dat zs L → Q (.ref p) (upd H p (SetHO T p L))
theorem cr_setL (T : Kit X.prog X.w) (hc : X.calm = true) (hu : X.A.units + 64 < cLine) : CallR X (.type "set") (rSetL X.K T) := by
  intro pins s σ H xs us Q I r h
  obtain ⟨l, zs, rfl, hs, hz, bd, q⟩ := h
  obtain ⟨its, rv, hl, _⟩ := I.list hs
  rw [Vals.ref1 r]
  refine set_of_list T zs (I.ok.hd hc) hl.isList (by rw [List.toList_toArray]; exact each_is T I zs its rv hz) bd (by omega) fun h' tk L R g kp => ?_
  exact ⟨.ref s.heap.objs.size, _, I.laid (t' := tk) kp (Nat.le_refl _) (setHO_new R), rfl, q _ L (I.hok.fresh (Nat.le_refl _)) g⟩
/-- sorted(a set) -/
def rSortedT (K : PySem.W.Frag) {P : Program} {w : World} (T : Kit P w) : List V → Hp → VK → Prop := fun vs H Q => ∃ (a : Addr) (L : List T.M), vs = [V.ref a] ∧ H a = some (SetHO T a L) ∧ (∀ x ∈ L, T.IsH K H x) ∧ L.length < T.lim ∧ Cmpb T.mem L ∧
  ∀ (L' : List T.M) (p : Addr), L'.Perm L → H p = none → Q (.ref p) (upd H p (.lst ((srt T.mem L').map T.val)))
theorem cr_sortedT (T : Kit X.prog X.w) (hc : X.calm = true) (hu : X.A.units + 64 < cLine) : CallR X (.builtin "sorted") (rSortedT X.K T) := by
  intro pins s σ H vs us Q I r h
  obtain ⟨a, L, rfl, ha, hI, few, cb, q⟩ := h
  have R : T.St s.heap a L := (I.hok a _ ha).1
  rw [Vals.ref1 r]
  refine sorted_kit T R (fun x hx => some_is T I (hI x hx)) (I.ok.hd hc) few (by omega) cb.al cb.so cb.dp fun s' p out c L' k g o hp hg pm eo => ?_
  have hv := vals_of_each T eo
  have yl : ((srt T.mem L').map T.val).length ≤ sizeLine := by
    have e := (List.mergeSort_perm L' (PySem.W.dataLe false T.dat)).length_eq
    show ((L'.mergeSort (PySem.W.dataLe false T.dat)).map T.val).length ≤ sizeLine
    rw [List.length_map, e, pm.length_eq]
    exact Nat.le_trans (Nat.le_of_lt few) T.limOk
  have fp : H p = none := I.hok.fresh hp
  have J : Inv X pins σ (upd H p (.lst ((srt T.mem L').map T.val))) { s with heap := s'.heap, gens := s'.gens, drawn := s'.drawn, toks := s'.toks } :=
    I.call (ch := []) (Un.laid k hp fp) (I.hok.laid k hp ⟨yl, out, c, hv, hg⟩) (by rw [g]; exact I.bare) (fun _ z => nomatch z)
  have e : s' = { s with heap := s'.heap, gens := s'.gens, drawn := s'.drawn, toks := s'.toks } := by
    cases s'
    cases s
    cases o
    rfl
  rw [e]
  exact ⟨.ref p, _, J, rfl, q L' p pm fp⟩
/-- set.add -/
theorem add_kit {P : Program} {w : World} (T : Kit P w) (ep : X.prog = P) (ew : X.w = w) {pins : List (Addr × Obj)} {σ : L2.St} {H : Hp} {s : Shared} {E : Value → Shared → Prop} {D : Addr} {L : List T.M} {m : T.M} {u : Value} {Q : Value → Shared → Prop} (I : Inv X pins σ H s) (hD : H D = some (SetHO T D L))
    (hx : ∀ x ∈ L, T.IsH X.K H x) (hm : T.IsH X.K H m) (ru : RelV (T.val m) u) (room : L.length + 1 < T.lim) (hu : X.A.units + 32 < cLine)
    (h : ∀ s' L', Inv X pins σ (upd H D (SetHO T D L')) s' → Added T.dat L m L' → Q .none s') : wpAny (model X.prog X.w) X.A (call (.builtin "set.add") [.ref D, u]) Q E s := by
  subst ep
  subst ew
  have R : T.St s.heap D L := (I.hok D _ hD).1
  have im : T.Is s.heap m u := T.isOf rfl rfl I hm ru
  refine wpAny_call_entry PySem.F.slot_set_add (T.typ R) F.entry_set_add ?_ (F.args_set_add_2 _ _)
  show wpAny _ X.A.in1 (setAdd D u >>= _) _ _ s
  unfold setAdd
  refine wpAny_bind (wpAny_holding (wpAny_bind (T.hashing (by simp only [Around.in1_units]; omega) im fun tk ht => ?_)))
  refine T.add (s := { s with toks := tk }) (by simp only [Around.in1_units]; omega) R (fun x hx' => some_is T I (hx x hx')) im room fun h' b L' sb R' ad => ?_
  refine wpAny_pure ⟨_, rfl, h _ L' ?_ ad⟩
  exact I.write (e := D) (t' := tk) (by rw [hD]; trivial) (.inl rfl) (fun b u hb hu => (sb.2 b hb).trans hu) (T.there R') (setHO_new R')
end
/-- what a turn asks, by what it does where the tests hold -/
abbrev TurnOf (prog : Program) (w : World) (A : Around) (tg : Expr) (ifs : List Expr) (it : Value) (env : Env) (DONE : Shared → Prop) (BODY : Shared → Prop) (OFF : Shared → Prop) (EX : Value → Shared → Prop) (s : Shared) : Prop :=
  wpAny (model prog w) A (pyNext it) (fun r s1 => match r with
      | none => DONE s1
      | some v => wpAny (model prog w) A (letOwnedTupleGo tg it v) (fun _ s2 => wpAny (model prog w) A (assign tg env v) (fun _ s3 =>
          wpAny (model prog w) A (forIn ifs true fun c r => if r = true then do let ok ← isTrue c env (eval c env); pure (ForInStep.yield ok) else pure (ForInStep.yield r)) (fun ok s4 => if ok = true then BODY s4 else OFF s4) EX s3) EX s2) EX s1) EX s
/-! ### one loop of a block -/
section
variable {Y : Cx} {tg : Expr} {J : It} {fp : List Addr} {it : Addr} {tn : Nat → Heap → Prop} {g : TG} {tt : TT} {ifs : List Expr} {pins : List (Addr × Obj)} {σ0 : L2.St} {vs : List Nat} {W : Nat → Nat → Hp → Prop} {Fin : Hp → Prop} {Bd : (Hp → Prop) → L2.St → Hp → Prop}
/-- what holds ahead of a turn -/
def Ahead (Y : Cx) (pins : List (Addr × Obj)) (σ0 : L2.St) (vs : List Nat) (fp : List Addr) (tn : Nat → Heap → Prop) (W : Nat → Nat → Hp → Prop) (n : Nat) (s : Shared) : Prop :=
  ∃ i H, Inv Y pins (wipe σ0 vs) H s ∧ tn i s.heap ∧ (∀ b ∈ fp, H b = none) ∧ W i n H
theorem one_turn (hx : Y.xe = fun _ _ => False) (hc : Y.calm = true) (T : Turn Y.prog Y.w Y.K tg J fp it tn) (pg : PG Y tg g) (pt : PTs Y ifs tt) (ff : ∀ H : Hp, (∀ b ∈ fp, H b = none) → ∀ b ∈ fp, FpOk Y pins H b)
    (turn : ∀ i m H, W i m H → (J.stop i H ∧ Fin H) ∨ (J.go i H ∧ ∃ Nx : Hp → Prop, (∀ H', Nx H' → ∃ m', m' < m ∧ W (i + 1) m' H') ∧ ∀ x H', J.yld i H x H' → g x (wipe σ0 vs) H' fun σ2 H2 => wipe σ2 vs = wipe σ0 vs ∧ tt σ2 H2 fun b H3 =>
      if b = true then Bd Nx σ2 H3 else Nx H3))
    {DONE : Shared → Prop} (done : ∀ s H, Inv Y pins (wipe σ0 vs) H s → Fin H → DONE s) {BODY : Shared → Prop} (n : Nat)
    (body : ∀ Nx σ2 H3 s ps, Inv Y (pins ++ ps) σ2 H3 s → wipe σ2 vs = wipe σ0 vs → Bd Nx σ2 H3 →
      (∀ σ9 s' H', Inv Y (pins ++ ps) σ9 H' s' → (wipe σ0 vs).length = σ9.length → (∀ (j : Nat) v, (wipe σ0 vs)[j]? = some (some v) → σ9[j]? = some (some v)) → Nx H' → ∃ m, m < n ∧ Ahead Y pins σ0 vs fp tn W m s') → BODY s)
    (s : Shared) (h : Ahead Y pins σ0 vs fp tn W n s) (EX : Value → Shared → Prop) :
    TurnOf Y.prog Y.w Y.A tg ifs (.ref it) Y.env DONE BODY (fun s4 => ∃ m, m < n ∧ Ahead Y pins σ0 vs fp tn W m s4) EX s := by
  obtain ⟨i, H, I, st, nf, w⟩ := h
  rcases turn i n H w with ⟨stop, fin⟩ | ⟨go, Nx, hNx, step⟩
  · refine thnF (T.done Y rfl rfl rfl hc i pins s _ H (fun _ _ => False) I (ff H nf) st stop) fun r s1 ⟨hr, I1⟩ => ?_
    subst hr
    exact done s1 H I1 fin
  · refine thnF (T.item Y rfl rfl rfl hc i pins s _ H (fun _ _ => False) I (ff H nf) st go) fun r s1 ⟨u, hr, h1⟩ => ?_
    subst hr
    refine thnF h1 fun _ s2 ⟨x, H2, I2, r2, y2, st2, n2⟩ => ?_
    have I2' := I2.pinned (ff H2 n2) (T.obj _ _ st2)
    have a1 := pg.run _ s2 _ H2 x u _ I2' r2 (step x H2 y2)
    rw [hx] at a1
    refine thnF a1 fun _ s3 ⟨σ3, H3, I3, hw3, q3⟩ => ?_
    have a2 := pt.run _ s3 σ3 H3 _ I3 q3
    rw [hx] at a2
    refine thnF a2 fun b s4 ⟨H4, I4, q4⟩ => ?_
    have fin : ∀ σ9 s' H', Inv Y (pins ++ pinsAt fp s2.heap) σ9 H' s' → (wipe σ0 vs).length = σ9.length → (∀ (j : Nat) v, (wipe σ0 vs)[j]? = some (some v) → σ9[j]? = some (some v)) → Nx H' → ∃ m, m < n ∧ Ahead Y pins σ0 vs fp tn W m s' := by
      intro σ9 s' H' I' hl hk nx
      obtain ⟨m', hm, w'⟩ := hNx H' nx
      have pin : ∀ b ∈ fp, ∀ o, s2.heap.get? b = some o → s'.heap.get? b = some o ∧ H' b = none := fun b hb o e =>
        let z := I'.pin (b, o) (List.mem_append_right _ (List.mem_append_right _ (mem_pinsAt hb e)))
        ⟨z.1, z.2.1⟩
      refine ⟨m', hm, i + 1, H', (I'.unpinned (pins := pins)).weak hl hk, T.keep _ _ _ st2 fun b hb o e => (pin b hb o e).1, fun b hb => ?_, w'⟩
      obtain ⟨o, e, _⟩ := T.obj _ _ st2 b hb
      exact (pin b hb o e).2
    have hl3 : (wipe σ0 vs).length = σ3.length := by rw [← hw3, wipe_length]
    have hk3 : ∀ (j : Nat) v, (wipe σ0 vs)[j]? = some (some v) → σ3[j]? = some (some v) := fun j v e => by
      rw [← hw3] at e
      exact (wipe_some e).1
    cases b with
    | false =>
      simp only [Bool.false_eq_true, if_false] at q4 ⊢
      exact fin σ3 s4 H4 I4 hl3 hk3 q4
    | true =>
      simp only [if_true] at q4 ⊢
      exact body Nx σ3 H4 s4 _ I4 hw3 q4 fin
end
/-! ### two clauses -/
section
variable {prog : Program} {w : World} {A : Around} {R : Result → Shared → Prop} {s : Shared} {elt t0 i0 t1 i1 : Expr} {ifs0 ifs1 : List Expr} {scope : Scope} {pos : Pos} {it acc : Value} {env : Env}
theorem turn_out (elt t0 i0 t1 i1 : Expr) (ifs0 ifs1 : List Expr) (scope : Scope) (pos : Pos) (it acc : Value) (env : Env) :
    compTurn (.SetComp elt [⟨t0, i0, ifs0, 0⟩, ⟨t1, i1, ifs1, 0⟩] scope pos) 0 it acc env = (do
      standAt i0.pos
      match ← pyNext it with
      | none => pure (.done .next)
      | some x =>
        letOwnedTupleGo t0 it x
        assign t0 env x
        let mut ok := true
        for q in ifs0 do
          if ok then ok ← isTrue q env (eval q env)
        if ok then
          let y ← eval i1 env
          standAt i1.pos
          let y ← foldedSetIterable i1 env y
          let _ ← runOwn (.compStart (.SetComp elt [⟨t0, i0, ifs0, 0⟩, ⟨t1, i1, ifs1, 0⟩] scope pos) 1 (← holding [y] (pyIter y)) acc env) env
        again (.compLoop (.SetComp elt [⟨t0, i0, ifs0, 0⟩, ⟨t1, i1, ifs1, 0⟩] scope pos) 0 it acc env)) := by rfl
theorem turn_in (elt t0 i0 t1 i1 : Expr) (ifs0 ifs1 : List Expr) (scope : Scope) (pos : Pos) (it acc : Value) (env : Env) :
    compTurn (.SetComp elt [⟨t0, i0, ifs0, 0⟩, ⟨t1, i1, ifs1, 0⟩] scope pos) 1 it acc env = (do
      standAt i1.pos
      match ← pyNext it with
      | none => pure (.done .next)
      | some x =>
        letOwnedTupleGo t1 it x
        assign t1 env x
        let mut ok := true
        for q in ifs1 do
          if ok then ok ← isTrue q env (eval q env)
        if ok then
          (do let y ← eval elt env; standAt elt.pos; let _ ← call (.builtin "set.add") [acc, y])
        again (.compLoop (.SetComp elt [⟨t0, i0, ifs0, 0⟩, ⟨t1, i1, ifs1, 0⟩] scope pos) 1 it acc env)) := by rfl
theorem loop_out (hs : ∀ x, foldedSetIterable i1 env x = pure x) (I : Nat → Shared → Prop)
    (turn : ∀ n s, I n s → TurnOf prog w A t0 ifs0 it env (R (.ok .next)) (fun s4 => wpAny (model prog w) A (eval i1 env) (fun x s5 => wpAny (model prog w) A (pyIter x) (fun it1 s6 =>
              codeAny (model prog w) A (.compStart (.SetComp elt [⟨t0, i0, ifs0, 0⟩, ⟨t1, i1, ifs1, 0⟩] scope pos) 1 it1 acc env) (fun r s' => match r with
                | .ok _ => ∃ m, m < n ∧ I m s'
                | .error _ => False) s6) (notedBy (model prog w) A env fun e s' => R (.error e) s') s5) (notedBy (model prog w) A env fun e s' => R (.error e) s') s4)
            (fun s4 => ∃ m, m < n ∧ I m s4) (notedBy (model prog w) A env fun e s' => R (.error e) s') s)
    (n : Nat) (h : I n s) :
    codeAny (model prog w) A (.compLoop (.SetComp elt [⟨t0, i0, ifs0, 0⟩, ⟨t1, i1, ifs1, 0⟩] scope pos) 0 it acc env) R s := by
  refine codeAny_loop rfl I (fun n s hI => ?_) n h
  show wpAny _ A ((compTurn (.SetComp elt [⟨t0, i0, ifs0, 0⟩, ⟨t1, i1, ifs1, 0⟩] scope pos) 0 it acc env).onRaise (fun x => do noteFrame x env; theTreesLotGoes x)) _ _ s
  refine wpAny_noted ?_
  rw [turn_out]
  refine wpAny_bind (wpAny_standAt (wpAny_bind (wpAny_mono (turn n s hI) (fun r u1 k1 => ?_) fun _ _ z => z)))
  cases r with
  | none => exact wpAny_pure k1
  | some v =>
    refine wpAny_bind (wpAny_mono k1 (fun _ u2 k2 => ?_) fun _ _ z => z)
    refine wpAny_bind (wpAny_mono k2 (fun _ u3 k3 => wpAny_bind (wpAny_mono k3 (fun ok u4 k4 => ?_) fun _ _ z => z)) fun _ _ z => z)
    cases ok with
    | false => exact wpAny_pure ⟨rfl, k4⟩
    | true =>
      refine wpAny_bind (wpAny_mono k4 (fun x u5 k5 => ?_) fun _ _ z => z)
      refine wpAny_bind (wpAny_standAt (wpAny_bind (wpAny_of_eq (hs x) (wpAny_bind (wpAny_holding (wpAny_mono k5 (fun it1 u6 k6 => ?_) fun _ _ z => z))))))
      refine wpAny_bind (wpAny_runOwn ?_)
      rw [Around.mark_none]
      refine codeAny_mono k6 fun r u7 hr => ?_
      cases r with
      | ok f =>
        first
          | exact wpAny_pure ⟨rfl, hr⟩
          | exact wpAny_bind (wpAny_pure (wpAny_pure ⟨rfl, hr⟩))
      | error e => exact hr.elim
theorem loop_in (I : Nat → Shared → Prop)
    (turn : ∀ n s, I n s → TurnOf prog w A t1 ifs1 it env (R (.ok .next)) (fun s4 => wpAny (model prog w) A (eval elt env) (fun x s5 =>
              wpAny (model prog w) A (call (.builtin "set.add") [acc, x]) (fun _ s6 => ∃ m, m < n ∧ I m s6) (notedBy (model prog w) A env fun e s' => R (.error e) s') s5) (notedBy (model prog w) A env fun e s' => R (.error e) s') s4)
            (fun s4 => ∃ m, m < n ∧ I m s4) (notedBy (model prog w) A env fun e s' => R (.error e) s') s)
    (n : Nat) (h : I n s) :
    codeAny (model prog w) A (.compLoop (.SetComp elt [⟨t0, i0, ifs0, 0⟩, ⟨t1, i1, ifs1, 0⟩] scope pos) 1 it acc env) R s := by
  refine codeAny_loop rfl I (fun n s hI => ?_) n h
  show wpAny _ A ((compTurn (.SetComp elt [⟨t0, i0, ifs0, 0⟩, ⟨t1, i1, ifs1, 0⟩] scope pos) 1 it acc env).onRaise (fun x => do noteFrame x env; theTreesLotGoes x)) _ _ s
  refine wpAny_noted ?_
  rw [turn_in]
  refine wpAny_bind (wpAny_standAt (wpAny_bind (wpAny_mono (turn n s hI) (fun r u1 k1 => ?_) fun _ _ z => z)))
  cases r with
  | none => exact wpAny_pure k1
  | some v =>
    refine wpAny_bind (wpAny_mono k1 (fun _ u2 k2 => ?_) fun _ _ z => z)
    refine wpAny_bind (wpAny_mono k2 (fun _ u3 k3 => wpAny_bind (wpAny_mono k3 (fun ok u4 k4 => ?_) fun _ _ z => z)) fun _ _ z => z)
    cases ok with
    | false => exact wpAny_pure ⟨rfl, k4⟩
    | true =>
      exact wpAny_bind (wpAny_bind (wpAny_mono k4 (fun x u5 k5 => wpAny_bind (wpAny_standAt (wpAny_bind (wpAny_mono k5 (fun _ u6 k6 => wpAny_pure (wpAny_pure ⟨rfl, k6⟩)) fun _ _ z => z)))) fun _ _ z => z))
theorem start_in (h0 : codeAny (model prog w) A (.compLoop (.SetComp elt [⟨t0, i0, ifs0, 0⟩, ⟨t1, i1, ifs1, 0⟩] scope pos) 1 it acc env) R s)
    (h : wpAny (model prog w) A (pyIter it) (fun it' s' => codeAny (model prog w) A (.compLoop (.SetComp elt [⟨t0, i0, ifs0, 0⟩, ⟨t1, i1, ifs1, 0⟩] scope pos) 1 it' acc env) R s')
      (notedBy (model prog w) A env fun x s' => R (.error x) s') s) :
    codeAny (model prog w) A (.compStart (.SetComp elt [⟨t0, i0, ifs0, 0⟩, ⟨t1, i1, ifs1, 0⟩] scope pos) 1 it acc env) R s := by
  refine codeAny_of_tree ?_
  show wpAny _ _ ((compStart (.SetComp elt [⟨t0, i0, ifs0, 0⟩, ⟨t1, i1, ifs1, 0⟩] scope pos) 1 it acc env).onRaise (fun x => do noteFrame x env; standAt theWindowsPlace)) _ _ s
  refine wpAny_notedAt ?_
  unfold compStart
  show wpAny _ _ (ask >>= _) _ _ s
  refine wpAny_bind (wpAny_askSetting (wpAny_ite ?_))
  split
  · first
      | exact wpAny_bind (wpAny_pure (wpAny_pure (And.intro rfl h0)))
      | exact wpAny_pure (And.intro rfl h0)
  · first
      | exact wpAny_bind (wpAny_rule (wpAny_bind (wpAny_standAt (wpAny_bind (wpAny_mono h (fun it' s' z => wpAny_pure (And.intro rfl z)) fun _ _ x => x)))))
      | (refine wpAny_bind (wpAny_rule ?_); show wpAny _ _ (standAt i1.pos >>= _) _ _ s; exact wpAny_bind (wpAny_standAt (wpAny_bind (wpAny_mono h (fun it' s' z => wpAny_pure (And.intro rfl z)) fun _ _ x => x))))
end
end SetX
end L2

/-! set comprehensions of data with one and with two clauses, and sorted(..) of them -/
namespace L2
open PySem PySem.Spec PyProof.Rows
namespace SetX
/-- y goes into the set at D -/
def Puts (B : Mem) (K : PySem.W.Frag) (SO : List B.M → HO) (D : Addr) (Nx : Hp → Prop) (y : V) (H : Hp) : Prop := ∃ (m : B.M) (L : List B.M), y = B.val m ∧ B.IsH K H m ∧ (∀ x ∈ L, B.IsH K H x) ∧ H D = some (SO L) ∧ L.length + 1 < B.lim ∧
  ∀ L', Added B.dat L m L' → Nx (upd H D (SO L'))
/-- the set at D is done; sorted(..) of it -/
def Done (B : Mem) (K : PySem.W.Frag) (SO : List B.M → HO) (D : Addr) (Q : VK) (H : Hp) : Prop := ∃ L, H D = some (SO L) ∧ (∀ x ∈ L, B.IsH K H x) ∧ L.length < B.lim ∧ Cmpb B L ∧
  ∀ (L' : List B.M) (p : Addr), L'.Perm L → H p = none → Q (.ref p) (upd H p (.lst ((srt B L').map B.val)))
/-- the loop of a set comprehension with one clause -/
def Lp1 (B : Mem) (K : PySem.W.Frag) (SO : List B.M → HO) (D : Addr) (J : It) (H1 : Hp) (g : TG) (tt : TT) (te : TE) (vs : List Nat) (σ : L2.St) (Fin : Hp → Prop) : Prop := ∃ W : Nat → Nat → Hp → Prop, (∃ m, W 0 m (upd H1 D (SO []))) ∧ ∀ i m H, W i m H →
  (J.stop i H ∧ Fin H) ∨ (J.go i H ∧ ∃ Nx : Hp → Prop, (∀ H', Nx H' → ∃ m', m' < m ∧ W (i + 1) m' H') ∧ ∀ x H', J.yld i H x H' → g x (wipe σ vs) H' fun σ2 H2 => wipe σ2 vs = wipe σ vs ∧ tt σ2 H2 fun b H3 =>
    if b = true then te σ2 H3 (Puts B K SO D Nx) else Nx H3)
/-- the inner loop -/
def LpIn (B : Mem) (K : PySem.W.Frag) (SO : List B.M → HO) (D : Addr) (g1 : TG) (tt1 : TT) (te : TE) (vs1 : List Nat) (σ2 : L2.St) (Nx : Hp → Prop) (J1 : It) (H4 : Hp) : Prop := ∃ W1 : Nat → Nat → Hp → Prop, (∃ m, W1 0 m H4) ∧ ∀ j k H, W1 j k H →
  (J1.stop j H ∧ Nx H) ∨ (J1.go j H ∧ ∃ Nx1 : Hp → Prop, (∀ H', Nx1 H' → ∃ k', k' < k ∧ W1 (j + 1) k' H') ∧ ∀ x H', J1.yld j H x H' → g1 x (wipe σ2 vs1) H' fun σ3 H5 => wipe σ3 vs1 = wipe σ2 vs1 ∧ tt1 σ3 H5 fun b H6 =>
    if b = true then te σ3 H6 (Puts B K SO D Nx1) else Nx1 H6)
/-- .. with two clauses -/
def Lp2 (B : Mem) (K : PySem.W.Frag) (SO : List B.M → HO) (D : Addr) (J : It) (H1 : Hp) (g : TG) (tt : TT) (wi1 : TI) (g1 : TG) (tt1 : TT) (te : TE) (vs vs1 : List Nat) (σ : L2.St) (Fin : Hp → Prop) : Prop := ∃ W : Nat → Nat → Hp → Prop, (∃ m, W 0 m (upd H1 D (SO []))) ∧ ∀ i m H, W i m H →
  (J.stop i H ∧ Fin H) ∨ (J.go i H ∧ ∃ Nx : Hp → Prop, (∀ H', Nx H' → ∃ m', m' < m ∧ W (i + 1) m' H') ∧ ∀ x H', J.yld i H x H' → g x (wipe σ vs) H' fun σ2 H2 => wipe σ2 vs = wipe σ vs ∧ tt σ2 H2 fun b H3 =>
    if b = true then wi1 σ2 H3 (LpIn B K SO D g1 tt1 te vs1 σ2 Nx) else Nx H3)
/-- sorted({e for ..}) -/
def tSortSc (B : Mem) (K : PySem.W.Frag) (wi : TI) (g : TG) (tt : TT) (te : TE) (vs : List Nat) : TE := fun σ H Q => wi σ H fun J H1 => ∀ (D : Addr) (SO : List B.M → HO), H1 D = none → Lp1 B K SO D J H1 g tt te vs σ (Done B K SO D Q)
/-- sorted({e for .. for ..}) -/
def tSortSc2 (B : Mem) (K : PySem.W.Frag) (wi : TI) (g : TG) (tt : TT) (wi1 : TI) (g1 : TG) (tt1 : TT) (te : TE) (vs vs1 : List Nat) : TE := fun σ H Q => wi σ H fun J H1 => ∀ (D : Addr) (SO : List B.M → HO), H1 D = none → Lp2 B K SO D J H1 g tt wi1 g1 tt1 te vs vs1 σ (Done B K SO D Q)
/-- sorted(set(xs)) -/
def tSortSet (B : Mem) (K : PySem.W.Frag) (te : TE) : TE := fun σ H Q => te σ H fun v H1 => ∃ (l : Addr) (zs : List B.M), v = V.ref l ∧ SqL K H1 l (zs.map B.val) ∧ (∀ z ∈ zs, B.IsH K H1 z) ∧ zs.length + 1 < B.lim ∧ Cmpb B zs ∧
  ∀ (p q : Addr) (o : HO) (L : List B.M), H1 p = none → q ≠ p → H1 q = none → Got B.dat zs L → Q (.ref q) (upd (upd H1 p o) q (.lst ((srt B L).map B.val)))
theorem Got.perm {M : Type} {dat : M → PyData} {zs L L' : List M} (g : Got dat zs L) (p : L'.Perm L) : Got dat zs L' :=
  ⟨fun x hx => g.sub x (p.mem_iff.mp hx), fun z hz => let ⟨x, hx, e⟩ := g.all z hz; ⟨x, p.mem_iff.mpr hx, e⟩, (p.map dat).nodup_iff.mpr g.nd, by rw [p.length_eq]; exact g.len⟩
section
variable {X : Cx}
/-- the block of a set comprehension stands open: what its first loop may use -/
structure Stand (T : Kit X.prog X.w) (pins : List (Addr × Obj)) (σ : L2.St) (scope : Scope) (own : List (PySem.Str × Nat)) (tg : Expr) (Q : VK) (use : Value → Shared → Prop) (H1 : Hp) (J : It) (D it : Addr) (fp : List Addr) (tn : Nat → Heap → Prop) (s3 s4 : Shared) (C : Addr) (cl : List (PySem.Str × Addr)) : Prop where
  inv : Inv (X.blk s3 (upd H1 D (SetHO T D [])) scope (compEnvC scope cl C X.env) fp) [] (wipe σ (own.map (·.2))) (upd H1 D (SetHO T D [])) s4
  turn : Turn X.prog X.w X.K tg J fp it tn
  st : tn 0 s4.heap
  nf : ∀ b ∈ fp, (upd H1 D (SetHO T D [])) b = none
  ff : ∀ H' : Hp, (∀ b ∈ fp, H' b = none) → ∀ b ∈ fp, FpOk (X.blk s3 (upd H1 D (SetHO T D [])) scope (compEnvC scope cl C X.env) fp) [] H' b
  close : ∀ s6 H6, Inv (X.blk s3 (upd H1 D (SetHO T D [])) scope (compEnvC scope cl C X.env) fp) [] (wipe σ (own.map (·.2))) H6 s6 → Q (.ref D) H6 → compPost (model X.prog X.w) X.A X.xe none use (.ref D) C (.ok .next) s6
theorem sc_open (T : Kit X.prog X.w) {pins : List (Addr × Obj)} {s : Shared} {σ : L2.St} {H : Hp} {Q : VK} {elt tg iter : Expr} {ifs : List Expr} {rest : List Comprehension} {scope : Scope} {own : List (PySem.Str × Nat)} {pos : Pos} {wi : TI}
    (hc : X.calm = true) (hN : X.N.Nodup) (I : Inv X pins σ H s) (hi : PI X tg iter wi) (ok : BlkOk X.N X.env.scope scope own) (hs : ∀ x, foldedSetIterable iter X.env x = pure x)
    {RD : It → Hp → Prop} (h : wi σ H RD)
    (loop : ∀ H1 J D it fp tn s3 s4 C cl, RD J H1 → H1 D = none → Stand T pins σ scope own tg Q (EP X pins σ Q) H1 J D it fp tn s3 s4 C cl →
      codeAny (model X.prog X.w) X.A (.compLoop (.SetComp elt (⟨tg, iter, ifs, 0⟩ :: rest) scope pos) 0 (.ref it) (.ref D) (compEnvC scope cl C X.env)) (compPost (model X.prog X.w) X.A X.xe none (EP X pins σ Q) (.ref D) C) s4) :
    wpAny (model X.prog X.w) X.A (eval (.SetComp elt (⟨tg, iter, ifs, 0⟩ :: rest) scope pos) X.env) (EP X pins σ Q) X.xe s := by
  rw [PpSet.eval_SetComp]
  have hfree : ∀ y ∈ scope.names, y.2 = .free → ∃ c, X.env.cells.lookup y.1 = some c := fun y hy e => by
    rcases ok.free y hy e with k | k
    · exact I.ok.has _ (.inl k)
    · exact I.ok.has _ (.inr k)
  show wpAny _ _ (comprehension (.SetComp elt (⟨tg, iter, ifs, 0⟩ :: rest) scope pos) scope X.env _ (newSet (.type "set")) false (eval iter X.env) none) _ _ s
  refine wpAny_comprehension_free (use := none) rfl hs (closure_ok hfree) ok.kind (fun y hy e => by rw [ok.uniq y hy, e])
    (thn (hi.run pins s σ H _ I h) fun xv s1 hx => thn hx fun itv s2 h2 => ?_)
  obtain ⟨it, fp, tn, J, H1, e, I2, TT, st2, f2, rd⟩ := h2
  subst e
  refine PpSet.newSet_ok (newEnv_comp ?_)
  generalize hD : s2.heap.objs.size = D
  have dn : H1 D = none := I2.hok.fresh (Nat.le_of_eq hD)
  generalize hs3 : ({ s2 with heap := s2.heap.push { cls := .type "set", dict := none, data := .set #[] 0 (.fresh 0 0 (!X.w.params.followText "set-order")) } } : Shared) = s3
  have h3 : s3.heap = s2.heap.push { cls := .type "set", dict := none, data := .set #[] 0 (.fresh 0 0 (!X.w.params.followText "set-order")) } := by rw [← hs3]
  have new : T.St s3.heap D [] := T.fresh (by rw [h3, ← hD]; exact Heap.get?_push_size _ rfl)
  have I3 : Inv X pins σ (upd H1 D (SetHO T D [])) s3 := by
    rw [← hs3]
    exact I2.laid (t' := s2.toks) (fun b o e => Heap.get?_push_of_some _ e) (Nat.le_of_eq hD) (setHO_new (by rw [← h3]; exact new))
  have lt : ∀ b ∈ fp, b < s2.heap.objs.size := fun b hb => by
    obtain ⟨o, e, _⟩ := TT.obj _ _ st2 b hb
    exact Heap.lt_size e
  have f3 : ∀ b ∈ fp, FpOk X pins (upd H1 D (SetHO T D [])) b ∧ b < s3.heap.objs.size := fun b hb => by
    refine ⟨⟨?_, (f2 b hb).2⟩, by rw [h3, Heap.size_push]; exact Nat.lt_succ_of_lt (lt b hb)⟩
    rw [upd_ne (by rw [← hD]; exact Nat.ne_of_lt (lt b hb))]
    exact (f2 b hb).1
  have st3 : tn 0 s3.heap := TT.keep _ _ _ st2 fun b _ o e => by rw [h3]; exact Heap.get?_push_of_some _ e
  have I4 := block_start I3 ok hN f3
  show codeAny _ _ (.compStart (.SetComp elt (⟨tg, iter, ifs, 0⟩ :: rest) scope pos) 0 (.ref it) (.ref D) (compEnvC scope (cellsFrom (s3.heap.objs.size + 1) scope.names (cloFrom X.env.cells scope.names [])) s3.heap.objs.size X.env)) (compPost (model X.prog X.w) X.A X.xe none (EP X pins σ Q) (.ref D) s3.heap.objs.size) { s3 with heap := pushCells (s3.heap.push { cls := .type "dict", data := .dict #[] }) scope.names }
  generalize hcl : cellsFrom (s3.heap.objs.size + 1) scope.names (cloFrom X.env.cells scope.names []) = cl at I4 ⊢
  have st4 : tn 0 (pushCells (s3.heap.push { cls := .type "dict", data := .dict #[] }) scope.names) := TT.keep _ _ _ st3 fun b _ o e => pushCells_keeps _ _ _ _ (Heap.get?_push_of_some _ e)
  have cL : (compEnvC scope cl s3.heap.objs.size X.env).locals = s3.heap.objs.size := rfl
  have stand : Stand T pins σ scope own tg Q (EP X pins σ Q) H1 J D it fp tn s3 { s3 with heap := pushCells (s3.heap.push { cls := .type "dict", data := .dict #[] }) scope.names } s3.heap.objs.size cl := by
    refine ⟨I4, TT, st4, fun b hb => (f3 b hb).1.1, fun H' hn b hb => ⟨hn b hb, (I4.ok.exf b hb).1, I4.ok.exfs b hb, .inl hb, fun x c e => (I4.ok.exf b hb).2 x c e, fun p hp => absurd (show p ∈ ([] : List (Addr × Obj)) ++ [] from hp) (by simp)⟩, fun s6 H6 I6 q => ?_⟩
    have I7 : Inv X pins σ H6 s6 := I3.call' (ch := fp) I6.os I6.base I6.hok I6.bare fun b hb => ⟨(f3 b hb).1.2.2.2.1, (f3 b hb).1.2.1, (f3 b hb).1.2.2.2.2.1, (f3 b hb).1.2.2.2.2.2⟩
    have nC : H6 s3.heap.objs.size = none := by
      have z : H6 (compEnvC scope cl s3.heap.objs.size X.env).locals = none := I6.free
      rw [cL] at z
      exact z
    obtain ⟨m, hn, _⟩ := I6.loc
    have hn : s6.heap.Ns (compEnvC scope cl s3.heap.objs.size X.env).locals m := hn
    rw [cL] at hn
    obtain ⟨z0, z1, z2, z3, z4, z5⟩ := I3.fpOk (Nat.le_refl _) nC
    exact ⟨m, hn, fun h'' sb => ⟨.ref D, H6, I7.turned (t' := s6.toks) (fun b o hb e => (sb.2 b hb).trans e) z0 z1 z3 z4 z5, rfl, q⟩⟩
  have lp := loop H1 J D it fp tn s3 _ s3.heap.objs.size cl rd dn stand
  exact PpSet.codeAny_compStart_set lp (TT.self X.A 0 _ _ _ st4 lp)
/-- the element goes in -/
theorem put_ok (T : Kit X.prog X.w) {Y : Cx} (ep : Y.prog = X.prog) (ew : Y.w = X.w) (ek : Y.K = X.K) {pins : List (Addr × Obj)} {σ : L2.St} {H : Hp} {s : Shared} {D : Addr} {y : V} {u : Value} {Nx : Hp → Prop} {F : Shared → Prop} {E : Value → Shared → Prop} (I : Inv Y pins σ H s) (r : RelV y u) (hu : Y.A.units + 32 < cLine)
    (p : Puts T.mem X.K (SetHO T D) D Nx y H) (fin : ∀ s' H', Inv Y pins σ H' s' → Nx H' → F s') : wpAny (model Y.prog Y.w) Y.A (call (.builtin "set.add") [.ref D, u]) (fun _ s' => F s') E s := by
  obtain ⟨m, L, rfl, hm, hx, hD, room, nx⟩ := p
  exact add_kit (Q := fun _ s' => F s') T ep ew I hD (fun x h => ek ▸ hx x h) (ek ▸ hm) r room hu fun s' L' I' ad => fin s' _ I' (nx L' ad)
/-- one clause -/
theorem pe_sc1 (T : Kit X.prog X.w) {elt tg iter : Expr} {ifs : List Expr} {scope : Scope} {own : List (PySem.Str × Nat)} {pos : Pos} {wi : TI} {g : TG} {tt : TT} {te : TE} (hc : X.calm = true) (hN : X.N.Nodup) (hu : X.A.units + 64 < cLine) (hi : PI X tg iter wi) (ok : BlkOk X.N X.env.scope scope own)
    (hg : ∀ (s : Shared) (H : Hp) (C : Addr) (cl : List (PySem.Str × Addr)) (fp : List Addr), PG (X.blk s H scope (compEnvC scope cl C X.env) fp) tg g) (ht : ∀ (s : Shared) (H : Hp) (C : Addr) (cl : List (PySem.Str × Addr)) (fp : List Addr), PTs (X.blk s H scope (compEnvC scope cl C X.env) fp) ifs tt)
    (he : ∀ (s : Shared) (H : Hp) (C : Addr) (cl : List (PySem.Str × Addr)) (fp : List Addr), PE (X.blk s H scope (compEnvC scope cl C X.env) fp) elt te) (hs : ∀ x, foldedSetIterable iter X.env x = pure x := by intro _; rfl) :
    PE X (.SetComp elt [⟨tg, iter, ifs, 0⟩] scope pos) (fun σ H Q => wi σ H fun J H1 => ∀ D, H1 D = none → Lp1 T.mem X.K (SetHO T D) D J H1 g tt te (own.map (·.2)) σ (Q (.ref D))) := by
  refine ⟨fun pins s σ H Q I h => ?_⟩
  refine sc_open T hc hN I hi ok hs h fun H1 J D it fp tn s3 s4 C cl rd dn S => ?_
  obtain ⟨W, ⟨m0, w0⟩, turn⟩ := rd D dn
  have pe := he s3 (upd H1 D (SetHO T D [])) C cl fp
  refine PpSet.compLoopS_any (Ahead (X.blk s3 (upd H1 D (SetHO T D [])) scope (compEnvC scope cl C X.env) fp) [] σ (own.map (·.2)) fp tn W) (fun n s' a => ?_) m0 ⟨0, _, S.inv, S.st, S.nf, w0⟩
  refine one_turn (Y := X.blk s3 (upd H1 D (SetHO T D [])) scope (compEnvC scope cl C X.env) fp) rfl hc S.turn (hg s3 _ C cl fp) (ht s3 _ C cl fp) S.ff turn (fun s6 H6 I6 q => S.close s6 H6 I6 q) n (fun Nx σ2 H3 s5 ps I5 hw bd fin => ?_) s' a _
  have hl : (wipe σ (own.map (·.2))).length = σ2.length := by rw [← hw, wipe_length]
  have hk : ∀ (j : Nat) v, (wipe σ (own.map (·.2)))[j]? = some (some v) → σ2[j]? = some (some v) := fun j v e => by
    rw [← hw] at e
    exact (wipe_some e).1
  refine thnF (pe.run _ s5 σ2 H3 _ I5 bd) fun z s6 ⟨y, H6, I6, r6, pt⟩ => ?_
  exact put_ok T (Y := X.blk s3 (upd H1 D (SetHO T D [])) scope (compEnvC scope cl C X.env) fp) rfl rfl rfl I6 r6 (by show X.A.units + 32 < cLine; omega) pt fun s7 H7 I7 nx => fin σ2 s7 H7 I7 hl hk nx
theorem pe_sc2 (T : Kit X.prog X.w) {elt tg iter tg1 iter1 : Expr} {ifs ifs1 : List Expr} {scope : Scope} {own : List (PySem.Str × Nat)} {vs1 : List Nat} {pos : Pos} {wi wi1 : TI} {g g1 : TG} {tt tt1 : TT} {te : TE} (hc : X.calm = true) (hN : X.N.Nodup) (hu : X.A.units + 64 < cLine) (hi : PI X tg iter wi) (ok : BlkOk X.N X.env.scope scope own) (hv : ∀ i ∈ vs1, i ∈ own.map (·.2))
    (hg : ∀ (s : Shared) (H : Hp) (C : Addr) (cl : List (PySem.Str × Addr)) (fp : List Addr), PG (X.blk s H scope (compEnvC scope cl C X.env) fp) tg g) (ht : ∀ (s : Shared) (H : Hp) (C : Addr) (cl : List (PySem.Str × Addr)) (fp : List Addr), PTs (X.blk s H scope (compEnvC scope cl C X.env) fp) ifs tt)
    (hi1 : ∀ (s : Shared) (H : Hp) (C : Addr) (cl : List (PySem.Str × Addr)) (fp : List Addr), PI (X.blk s H scope (compEnvC scope cl C X.env) fp) tg1 iter1 wi1)
    (hg1 : ∀ (s : Shared) (H : Hp) (C : Addr) (cl : List (PySem.Str × Addr)) (fp : List Addr), PG (X.blk s H scope (compEnvC scope cl C X.env) fp) tg1 g1) (ht1 : ∀ (s : Shared) (H : Hp) (C : Addr) (cl : List (PySem.Str × Addr)) (fp : List Addr), PTs (X.blk s H scope (compEnvC scope cl C X.env) fp) ifs1 tt1)
    (he : ∀ (s : Shared) (H : Hp) (C : Addr) (cl : List (PySem.Str × Addr)) (fp : List Addr), PE (X.blk s H scope (compEnvC scope cl C X.env) fp) elt te) (hs : ∀ x, foldedSetIterable iter X.env x = pure x := by intro _; rfl) (hs1 : ∀ env x, foldedSetIterable iter1 env x = pure x := by intro _ _; rfl) :
    PE X (.SetComp elt [⟨tg, iter, ifs, 0⟩, ⟨tg1, iter1, ifs1, 0⟩] scope pos) (fun σ H Q => wi σ H fun J H1 => ∀ D, H1 D = none → Lp2 T.mem X.K (SetHO T D) D J H1 g tt wi1 g1 tt1 te (own.map (·.2)) vs1 σ (Q (.ref D))) := by
  refine ⟨fun pins s σ H Q I h => ?_⟩
  refine sc_open T hc hN I hi ok hs h fun H1 J D it fp tn s3 s4 C cl rd dn S => ?_
  obtain ⟨W, ⟨m0, w0⟩, turn⟩ := rd D dn
  have pe := he s3 (upd H1 D (SetHO T D [])) C cl fp
  refine loop_out (hs1 _) (Ahead (X.blk s3 (upd H1 D (SetHO T D [])) scope (compEnvC scope cl C X.env) fp) [] σ (own.map (·.2)) fp tn W) (fun n s' a => ?_) m0 ⟨0, _, S.inv, S.st, S.nf, w0⟩
  refine one_turn (Y := X.blk s3 (upd H1 D (SetHO T D [])) scope (compEnvC scope cl C X.env) fp) rfl hc S.turn (hg s3 _ C cl fp) (ht s3 _ C cl fp) S.ff turn (fun s6 H6 I6 q => S.close s6 H6 I6 q) n (fun Nx σ2 H3 s5 ps I5 hw bd fin => ?_) s' a _
  have hl : (wipe σ (own.map (·.2))).length = σ2.length := by rw [← hw, wipe_length]
  have hk : ∀ (j : Nat) v, (wipe σ (own.map (·.2)))[j]? = some (some v) → (wipe σ2 vs1)[j]? = some (some v) := fun j v e => by
    rw [← hw] at e
    obtain ⟨e1, e2⟩ := wipe_some e
    rw [wipe_out fun z => e2 (hv j z)]
    exact e1
  refine thnF ((hi1 s3 _ C cl fp).run _ s5 σ2 H3 _ I5 bd) fun xv s6 hx => thnF hx fun itv s7 h7 => ?_
  obtain ⟨it1, fp1, tn1, J1, H7, e1, I7, T1, st7, f7, W1, ⟨m1, w1⟩, turn1⟩ := h7
  subst e1
  have ff1 : ∀ H' : Hp, (∀ b ∈ fp1, H' b = none) → ∀ b ∈ fp1, FpOk (X.blk s3 (upd H1 D (SetHO T D [])) scope (compEnvC scope cl C X.env) fp) ([] ++ ps) H' b := fun H' hn b hb => ⟨hn b hb, (f7 b hb).2⟩
  have lp1 : codeAny (model X.prog X.w) X.A (.compLoop (.SetComp elt [⟨tg, iter, ifs, 0⟩, ⟨tg1, iter1, ifs1, 0⟩] scope pos) 1 (.ref it1) (.ref D) (compEnvC scope cl C X.env))
      (fun r s' => match r with
        | .ok _ => ∃ m, m < n ∧ Ahead (X.blk s3 (upd H1 D (SetHO T D [])) scope (compEnvC scope cl C X.env) fp) [] σ (own.map (·.2)) fp tn W m s'
        | .error _ => False) s7 := by
    refine loop_in (Ahead (X.blk s3 (upd H1 D (SetHO T D [])) scope (compEnvC scope cl C X.env) fp) ([] ++ ps) σ2 vs1 fp1 tn1 W1) (fun k s8 a1 => ?_) m1 ⟨0, H7, I7.weak (wipe_length _ _) (fun j v e => (wipe_some e).1), st7, fun b hb => (f7 b hb).1, w1⟩
    refine one_turn (Y := X.blk s3 (upd H1 D (SetHO T D [])) scope (compEnvC scope cl C X.env) fp) rfl hc T1 (hg1 s3 _ C cl fp) (ht1 s3 _ C cl fp) ff1 turn1 (fun s9 H9 I9 nx => fin _ s9 H9 I9 (hl.trans (wipe_length σ2 vs1).symm) hk nx) k (fun Nx1 σ3 H8 s9 ps1 I8 hw1 bd1 fin1 => ?_) s8 a1 _
    have hl3 : (wipe σ2 vs1).length = σ3.length := by rw [← hw1, wipe_length]
    have hk3 : ∀ (j : Nat) v, (wipe σ2 vs1)[j]? = some (some v) → σ3[j]? = some (some v) := fun j v e => by
      rw [← hw1] at e
      exact (wipe_some e).1
    refine thnF (pe.run _ s9 σ3 H8 _ I8 bd1) fun z s10 ⟨y, H10, I10, r10, pt⟩ => ?_
    exact put_ok T (Y := X.blk s3 (upd H1 D (SetHO T D [])) scope (compEnvC scope cl C X.env) fp) rfl rfl rfl I10 r10 (by show X.A.units + 32 < cLine; omega) pt fun s11 H11 I11 nx => fin1 σ3 s11 H11 I11 hl3 hk3 nx
  exact start_in lp1 (T1.self X.A 0 _ _ _ st7 lp1)
/-- an iterator with less than is asked -/
def iMn (wi : TI) : TI := fun σ H R => ∃ R0 : It → Hp → Prop, wi σ H R0 ∧ ∀ J H1, R0 J H1 → R J H1
theorem pi_mn {tg iter : Expr} {wi : TI} (h : PI X tg iter wi) : PI X tg iter (iMn wi) := ⟨fun pins s σ H R I ⟨R0, h0, h1⟩ => thn (h.run pins s σ H R0 I h0) fun _ _ z => thn z fun _ _ ⟨it, fp, tn, J, H', e, I', T, st, f, r⟩ => ⟨it, fp, tn, J, H', e, I', T, st, f, h1 J H' r⟩⟩
theorem Lp1.mono {B : Mem} {K : PySem.W.Frag} {SO : List B.M → HO} {D : Addr} {J : It} {H1 : Hp} {g : TG} {tt : TT} {te : TE} {vs : List Nat} {σ : L2.St} {F F' : Hp → Prop} (h : Lp1 B K SO D J H1 g tt te vs σ F) (m : ∀ H, F H → F' H) : Lp1 B K SO D J H1 g tt te vs σ F' := by
  obtain ⟨W, w0, t⟩ := h
  exact ⟨W, w0, fun i n H w => (t i n H w).elim (fun z => .inl ⟨z.1, m _ z.2⟩) .inr⟩
theorem Lp2.mono {B : Mem} {K : PySem.W.Frag} {SO : List B.M → HO} {D : Addr} {J : It} {H1 : Hp} {g g1 : TG} {tt tt1 : TT} {wi1 : TI} {te : TE} {vs vs1 : List Nat} {σ : L2.St} {F F' : Hp → Prop} (h : Lp2 B K SO D J H1 g tt wi1 g1 tt1 te vs vs1 σ F) (m : ∀ H, F H → F' H) : Lp2 B K SO D J H1 g tt wi1 g1 tt1 te vs vs1 σ F' := by
  obtain ⟨W, w0, t⟩ := h
  exact ⟨W, w0, fun i n H w => (t i n H w).elim (fun z => .inl ⟨z.1, m _ z.2⟩) .inr⟩
theorem done_sorted (T : Kit X.prog X.w) {K : PySem.W.Frag} {D : Addr} {Q : VK} {H : Hp} (h : Done T.mem K (SetHO T D) D Q H) : rSortedT K T [.ref D] H Q :=
  let ⟨L, hD, hx, few, cb, q⟩ := h
  ⟨D, L, rfl, hD, hx, few, cb, q⟩
theorem pe_sortSc (T : Kit X.prog X.w) {elt tg iter : Expr} {ifs : List Expr} {scope : Scope} {own : List (PySem.Str × Nat)} {p1 pos pos1 : Pos} {wi : TI} {g : TG} {tt : TT} {te : TE} (hc : X.calm = true) (hN : X.N.Nodup) (hu : X.A.units + 64 < cLine) (g1 : Gl X "sorted") (m1 : X.mg "sorted" = none) (hi : PI X tg iter wi) (ok : BlkOk X.N X.env.scope scope own)
    (hg : ∀ (s : Shared) (H : Hp) (C : Addr) (cl : List (PySem.Str × Addr)) (fp : List Addr), PG (X.blk s H scope (compEnvC scope cl C X.env) fp) tg g) (ht : ∀ (s : Shared) (H : Hp) (C : Addr) (cl : List (PySem.Str × Addr)) (fp : List Addr), PTs (X.blk s H scope (compEnvC scope cl C X.env) fp) ifs tt)
    (he : ∀ (s : Shared) (H : Hp) (C : Addr) (cl : List (PySem.Str × Addr)) (fp : List Addr), PE (X.blk s H scope (compEnvC scope cl C X.env) fp) elt te) (hs : ∀ x, foldedSetIterable iter X.env x = pure x := by intro _; rfl)
    (sE : starEach [.SetComp elt [⟨tg, iter, ifs, 0⟩] scope pos] X.env = (false, eval (.SetComp elt [⟨tg, iter, ifs, 0⟩] scope pos) X.env) :: starEach [] X.env := by rfl) :
    PE X (.Call (.Name "sorted" p1) [.SetComp elt [⟨tg, iter, ifs, 0⟩] scope pos] [] pos1) (tSortSc T.mem X.K wi g tt te (own.map (·.2))) := by
  have inner := pe_sc1 T (pos := pos) hc hN hu (pi_mn hi) ok hg ht he hs
  have outer := pe_callB (pos := pos1) (p := p1) (cr_sortedT T hc hu) g1 m1 (by decide +kernel) (pa_cons inner pa_nil (hs := sE)) (he := sE)
  refine ⟨fun pins s σ H Q I h => outer.run pins s σ H Q I ?_⟩
  exact ⟨_, h, fun J H1 k D dn => (k D (SetHO T D) dn).mono fun H6 d => done_sorted T d⟩
theorem pe_sortSc2 (T : Kit X.prog X.w) {elt tg iter tg1 iter1 : Expr} {ifs ifs1 : List Expr} {scope : Scope} {own : List (PySem.Str × Nat)} {vs1 : List Nat} {p1 pos pos1 : Pos} {wi wi1 : TI} {g g1 : TG} {tt tt1 : TT} {te : TE} (hc : X.calm = true) (hN : X.N.Nodup) (hu : X.A.units + 64 < cLine) (gs : Gl X "sorted") (m1 : X.mg "sorted" = none) (hi : PI X tg iter wi) (ok : BlkOk X.N X.env.scope scope own) (hv : ∀ i ∈ vs1, i ∈ own.map (·.2))
    (hg : ∀ (s : Shared) (H : Hp) (C : Addr) (cl : List (PySem.Str × Addr)) (fp : List Addr), PG (X.blk s H scope (compEnvC scope cl C X.env) fp) tg g) (ht : ∀ (s : Shared) (H : Hp) (C : Addr) (cl : List (PySem.Str × Addr)) (fp : List Addr), PTs (X.blk s H scope (compEnvC scope cl C X.env) fp) ifs tt)
    (hi1 : ∀ (s : Shared) (H : Hp) (C : Addr) (cl : List (PySem.Str × Addr)) (fp : List Addr), PI (X.blk s H scope (compEnvC scope cl C X.env) fp) tg1 iter1 wi1)
    (hg1 : ∀ (s : Shared) (H : Hp) (C : Addr) (cl : List (PySem.Str × Addr)) (fp : List Addr), PG (X.blk s H scope (compEnvC scope cl C X.env) fp) tg1 g1) (ht1 : ∀ (s : Shared) (H : Hp) (C : Addr) (cl : List (PySem.Str × Addr)) (fp : List Addr), PTs (X.blk s H scope (compEnvC scope cl C X.env) fp) ifs1 tt1)
    (he : ∀ (s : Shared) (H : Hp) (C : Addr) (cl : List (PySem.Str × Addr)) (fp : List Addr), PE (X.blk s H scope (compEnvC scope cl C X.env) fp) elt te) (hs : ∀ x, foldedSetIterable iter X.env x = pure x := by intro _; rfl) (hs1 : ∀ env x, foldedSetIterable iter1 env x = pure x := by intro _ _; rfl)
    (sE : starEach [.SetComp elt [⟨tg, iter, ifs, 0⟩, ⟨tg1, iter1, ifs1, 0⟩] scope pos] X.env = (false, eval (.SetComp elt [⟨tg, iter, ifs, 0⟩, ⟨tg1, iter1, ifs1, 0⟩] scope pos) X.env) :: starEach [] X.env := by rfl) :
    PE X (.Call (.Name "sorted" p1) [.SetComp elt [⟨tg, iter, ifs, 0⟩, ⟨tg1, iter1, ifs1, 0⟩] scope pos] [] pos1) (tSortSc2 T.mem X.K wi g tt wi1 g1 tt1 te (own.map (·.2)) vs1) := by
  have inner := pe_sc2 T (pos := pos) hc hN hu (pi_mn hi) ok hv hg ht hi1 hg1 ht1 he hs hs1
  have outer := pe_callB (pos := pos1) (p := p1) (cr_sortedT T hc hu) gs m1 (by decide +kernel) (pa_cons inner pa_nil (hs := sE)) (he := sE)
  refine ⟨fun pins s σ H Q I h => outer.run pins s σ H Q I ?_⟩
  exact ⟨_, h, fun J H1 k D dn => (k D (SetHO T D) dn).mono fun H6 d => done_sorted T d⟩
def tLess (te : TE) : TE := fun σ H Q => ∃ Q0 : VK, te σ H Q0 ∧ ∀ v H1, Q0 v H1 → Q v H1
theorem pe_less {e : Expr} {te : TE} (he : PE X e te) : PE X e (tLess te) := ⟨fun pins s σ H Q I ⟨Q0, h0, h1⟩ => thn (he.run pins s σ H Q0 I h0) fun _ _ ⟨v, H1, I1, r1, z⟩ => ⟨v, H1, I1, r1, h1 v H1 z⟩⟩
theorem pe_sortSetL (T : Kit X.prog X.w) {e : Expr} {te : TE} {p1 p2 pos1 pos2 : Pos} (hc : X.calm = true) (hu : X.A.units + 64 < cLine) (g1 : Gl X "sorted") (m1 : X.mg "sorted" = none) (g2 : Gl X "set") (m2 : X.mg "set" = none) (he : PE X e te)
    (s2 : starEach [e] X.env = (false, eval e X.env) :: starEach [] X.env := by rfl) (s1 : starEach [.Call (.Name "set" p2) [e] [] pos2] X.env = (false, eval (.Call (.Name "set" p2) [e] [] pos2) X.env) :: starEach [] X.env := by rfl) :
    PE X (.Call (.Name "sorted" p1) [.Call (.Name "set" p2) [e] [] pos2] [] pos1) (tSortSet T.mem X.K te) := by
  have inner := pe_callTy (pos := pos2) (p := p2) (cr_setL T hc hu) g2 m2 (by decide +kernel) (pa_cons (pe_less he) pa_nil (hs := s2)) (he := s2)
  have outer := pe_callB (pos := pos1) (p := p1) (cr_sortedT T hc hu) g1 m1 (by decide +kernel) (pa_cons inner pa_nil (hs := s1)) (he := s1)
  refine ⟨fun pins s σ H Q I h => outer.run pins s σ H Q I ?_⟩
  refine ⟨_, h, ?_⟩
  rintro v H1 ⟨l, zs, rfl, hl, hz, room, cb, q⟩
  refine ⟨l, zs, rfl, hl, hz, room, fun p L hp g => ?_⟩
  refine ⟨p, L, rfl, upd_same, fun x hx => T.keepH (hz x (g.sub x hx)) (fun b u e => by rw [upd_ne (ne_of_none e hp)]; exact e), Nat.lt_of_le_of_lt g.len (Nat.lt_of_succ_lt room), cb.sub g.sub, fun L' p9 pm hq => ?_⟩
  have nq : p9 ≠ p := fun z => by rw [z, upd_same] at hq; cases hq
  exact q p p9 _ L' hp nq (by rw [upd_ne nq] at hq; exact hq) (g.perm pm)
end
end SetX
end L2

/-! d.items() of a dict whose keys are tuples, walked by a target of several names -/
namespace L2
open PySem PySem.Spec PyProof.Rows
/-- the pairs, each a new tuple of the key's own tuple and the value -/
def ItiT (d : Addr) (o : Obj) (kvs : List (List Key × V)) : It :=
  ⟨fun i H => H d = some (.frz o (.dT kvs)) ∧ i < kvs.length, fun i H x H' => ∃ T k v q, kvs[i]? = some (k, v) ∧ H q = some (.tup (k.map kV)) ∧ x = .ref T ∧ H T = none ∧ H' = upd H T (.tup [.ref q, v]), fun i H => H d = some (.frz o (.dT kvs)) ∧ kvs.length ≤ i⟩
section
variable {X : Cx} {pins : List (Addr × Obj)} {σ : St} {H : Hp} {s : Shared} {d : Addr} {o : Obj}
theorem Inv.frzV {kvs : List (List Key × V)} (I : Inv X pins σ H s) (h : H d = some (.frz o (.dT kvs))) :
    (d == sysModules) = false ∧ s.heap.get? d = some o ∧ o.ExactDict ∧ ∃ (es : Array DictEntry) (ep : Nat), o.data = .dict es ep ∧ es.size = kvs.length ∧
      ∀ (i : Nat) (k : List Key) (v : V), kvs[i]? = some (k, v) → ∃ (en : DictEntry) (q : Addr), es[i]? = some en ∧ en.key = .ref q ∧ H q = some (.tup (k.map kV)) ∧ RelV v en.val := by
  obtain ⟨hd, z, hs, xs, pr, o', es, ep, ho, hx, hdt, he, _⟩ := I.hok d _ h
  rw [hd] at ho
  cases ho
  refine ⟨hs, hd, hx, es, ep, hdt, ?_, fun i k v e => ?_⟩
  · have l1 : es.size = xs.length := size_of_entries he
    have l2 : kvs.length = xs.length := Paired.length pr
    omega
  · obtain ⟨b, hb, e1, e2, e3⟩ := paired_get pr e
    have q := entry_at he i
    rw [hb] at q
    exact ⟨_, b.2.1, q, rfl, e2, e3⟩
end
theorem turn_itemsT {P : Program} {w : World} {K : PySem.W.Frag} {d : Addr} {o : Obj} {es : Array DictEntry} {ep : Nat} {kvs : List (List Key × V)} {elts : List Expr} {kk : Nat} {tpos : Pos} (it : Addr) (hod : o.data = .dict es ep) :
    Turn P w K (.Tuple elts kk tpos) (ItiT d o kvs) [it] it (fun i h => ∃ ok ov, IsItemIter h it d i kvs.length ep ok ov) where
  mem := by simp
  obj := fun i h st b hb => by
    have e : b = it := by simpa using hb
    subst e
    obtain ⟨ok, ov, e⟩ := st
    exact ⟨_, e, fun v z => nomatch z⟩
  keep := fun i h h' st k => let ⟨ok, ov, e⟩ := st; ⟨ok, ov, k it (by simp) _ e⟩
  item := by
    intro X hP hw hK hc i pins s σ H E I hf st hg
    subst hP hw hK
    obtain ⟨hd, hi⟩ := hg
    obtain ⟨hs, hgd, hx, es', ep', hdt, hsz, ent⟩ := I.frzV hd
    obtain ⟨rfl, rfl⟩ := dict_ep hod hdt
    obtain ⟨⟨k, v⟩, hkv⟩ : ∃ p, kvs[i]? = some p := ⟨kvs[i], List.getElem?_eq_getElem hi⟩
    obtain ⟨en, q, hen, hkey, hq, rv⟩ := ent i k v hkv
    obtain ⟨ok, ov, he⟩ := st
    have ltI : it < s.heap.objs.size := Heap.lt_size he
    have hi2 : i < es'.size := by rw [hsz]; exact hi
    have een : es'[i] = en := by
      rw [Array.getElem?_eq_getElem hi2] at hen
      exact Option.some.inj hen
    rw [← hsz] at he
    refine wpAny_pyNext_items_item_raw he ⟨o, hgd, hx, hdt⟩ hi2 fun h' ho hT hz hk => ?_
    refine ⟨_, rfl, wpAny_letOwnedTupleGo_items (s := { s with heap := h' }) ho fun h'' he' sb => ?_⟩
    have hT2 : h''.get? s.heap.objs.size = some { cls := .type "tuple", data := .seq #[es'[i].key, es'[i].val] } := (sb.2 _ (Nat.ne_of_gt ltI)).trans hT
    rw [een, hkey] at hT2
    have new : ObjOk X.prog X.w (upd H s.heap.objs.size (.tup [.ref q, v])) h'' s.heap.objs.size (.tup [.ref q, v]) :=
      ⟨by show 2 ≤ sizeLine; decide, [.ref q, en.val], .cons rfl (.cons rv .nil), ⟨_, hT2, rfl, _, rfl⟩⟩
    have I1 : Inv X pins σ (upd H s.heap.objs.size (.tup [.ref q, v])) { s with heap := h'' } :=
      I.turnedNew (t' := s.toks) (ch := [it]) (fun b ob hb e => (sb.2 b (by simpa using hb)).trans (hk b ob (by simpa using hb) e)) hf (Nat.le_refl _) new
    refine ⟨.ref s.heap.objs.size, _, I1, rfl, ⟨_, k, v, q, hkv, hq, rfl, I.hok.fresh (Nat.le_refl _), rfl⟩, ⟨es'[i].key, es'[i].val, ?_⟩, fun b hb => ?_⟩
    · rw [← hsz]; exact he'
    · have e : b = it := by simpa using hb
      rw [e, upd_ne (Nat.ne_of_lt ltI)]
      exact (hf it (by simp)).1
  done := by
    intro X hP hw hK hc i pins s σ H E I hf st hg
    subst hP hw hK
    obtain ⟨hd, hi⟩ := hg
    obtain ⟨f0, f1, f2, f3, f4, f5⟩ := hf it (by simp)
    obtain ⟨hs, hgd, hx, es', ep', hdt, hsz, ent⟩ := I.frzV hd
    obtain ⟨rfl, rfl⟩ := dict_ep hod hdt
    obtain ⟨ok, ov, he⟩ := st
    rw [← hsz] at he
    exact wpAny_pyNext_items_end_raw (I.ok.hd hc) he ⟨o, hgd, hx, hdt⟩ (by omega) fun h' eb => ⟨rfl, I.turned (t' := s.toks) (fun b ob hb e => eb b ob hb e) f0 f1 f3 f4 f5⟩
  self := fun A i s Q E st h => let ⟨_, _, e⟩ := st; PySem.W.kcp_self e h
/-- the dict is locked -/
def iItemsT (td : TE) : TI := fun σ H R => td σ H fun x H1 => ∃ d o kvs, x = .ref d ∧ H1 d = some (.frz o (.dT kvs)) ∧ R (ItiT d o kvs) H1
theorem pi_itemsT {X : Cx} {e : Expr} {td : TE} {apos cpos : Pos} {elts : List Expr} {kk : Nat} {tpos : Pos} (he : PE X e td) (hbase : attributeBase e "items" X.env (eval e X.env) = eval e X.env := by rfl) (hline : (apos.endLine == cpos.line) = true := by rfl) :
    PI X (.Tuple elts kk tpos) (.Call (.Attribute e "items" apos) [] [] cpos) (iItemsT td) := by
  refine ⟨fun pins s σ H R I h => ?_⟩
  refine wpAny_Call_method (T := "dict") (id := "dict.items") hbase rfl hline F.plainAttrs_dict F.slot_dict_items F.type_dict_items (thn (he.run pins s σ H _ I h) fun u s1 ⟨x, H1, I1, rx, d, o, kvs, ex, hd, q⟩ => ?_)
  subst ex
  obtain rfl : u = Value.ref d := rx
  obtain ⟨hs, hgd, hx, es, ep, hdt, hsz, ent⟩ := I1.frzV hd
  have hm : s1.heap.DictRaw d es ep := ⟨o, hgd, hx, hdt⟩
  refine ⟨hm.typeIs, fun oo eo => ?_, ?_⟩
  · cases eo
    exact ⟨o, hgd, hx.2.1⟩
  have I2 : Inv X pins σ H1 { s1 with heap := s1.heap.push { cls := .type "dict_items", data := .fields #[.ref d] } } := I1.kept (t' := s1.toks) fun b ob q => Heap.get?_push_of_some _ q
  have fin : wpAny (model X.prog X.w) X.A (pyIter (.ref s1.heap.objs.size)) (PIE X pins σ (.Tuple elts kk tpos) R) X.xe { s1 with heap := s1.heap.push { cls := .type "dict_items", data := .fields #[.ref d] } } := by
    refine wpAny_pyIter_items_raw (d := d) ⟨_, Heap.get?_push_size _ rfl, rfl, rfl⟩ (hm.at fun u e => Heap.get?_push_of_some _ e) (pi_one (tk := s1.toks) I2 _ (turn_itemsT _ hdt) ⟨.none, .none, ?_⟩ q)
    rw [← hsz]
    exact Heap.get?_push_size _ rfl
  show wpAny _ _ (callWith cpos (.builtin "dict.items") [.ref d] [] []) _ X.xe s1
  exact method_meetsIn F.slot_dict_items F.entry_dict_items rfl (PySem.evalArgs_none ⟨rfl, hm.typeIs, F.args_dict_items_1 _, _, meets_dict_items_raw d hs, ⟨es, ep, hm⟩, fin⟩)
theorem walk_itemsT {d : Addr} {o : Obj} {kvs : List (List Key × V)} : Walk (ItiT d o kvs) kvs.length (fun H => H d = some (.frz o (.dT kvs)))
    (fun i H x H' => ∃ T k v q, kvs[i]? = some (k, v) ∧ H q = some (.tup (k.map kV)) ∧ x = .ref T ∧ H T = none ∧ H' = upd H T (.tup [.ref q, v])) :=
  ⟨fun _ _ hi q => ⟨q, hi⟩, fun _ q => ⟨q, Nat.le_refl _⟩, fun _ _ _ _ _ _ y => y⟩
end L2

/-! list(a text) -/
namespace L2
open PySem PySem.Spec PyProof.Rows
def rListStr : List V → Hp → VK → Prop := fun xs H Q => ∃ z : Str, xs = [.str z] ∧ z.cps.size ≤ 1000000 ∧ ∀ l, H l = none → Q (.ref l) (upd H l (.lst (z.cps.toList.map fun c => V.str ⟨#[c]⟩)))
theorem cr_listStr {X : Cx} (hc : X.calm = true) : CallR X (.type "list") rListStr := by
  intro pins s σ H xs us Q I r h
  obtain ⟨z, rfl, hz, q⟩ := h
  obtain ⟨u, rfl, t, rfl⟩ := vals1 r
  have hz2 : z.cps.size ≤ sizeLine := Nat.le_trans hz (by decide)
  refine call_list_str (I.ok.hd hc) z t (fun h' tk acc' c' kp hg it => ?_) hz2
  have hv : Vals (z.cps.toList.map fun c => V.str ⟨#[c]⟩) acc'.toList := vals_of_idx _ _ (by simp [it.1]) fun j v hj => by
    obtain ⟨c, u, e1, e2⟩ := it.2 j v (by simpa using hj)
    exact ⟨.str ⟨#[c]⟩, by simp [e1], u, e2⟩
  refine ⟨.ref s.heap.objs.size, _, I.laid (t' := tk) kp (Nat.le_refl _) (show ObjOk X.prog X.w _ h' _ (.lst (z.cps.toList.map fun c => V.str ⟨#[c]⟩)) from ⟨by simpa using hz2, acc'.toList, c', hv, by simpa using hg⟩), rfl, q _ (I.hok.fresh (Nat.le_refl _))⟩
end L2

/-! str.count -/
namespace L2
open PySem PySem.Spec PyProof.Rows
variable {X : Cx}
def rCount : V → List V → Hp → VK → Prop := fun x xs H Q => ∃ a b, x = .str a ∧ xs = [.str b] ∧ Q (.int (Txt.count a b)) H
theorem mt_countA : MtR X "str.count" rCount := mt_count
end L2

/-! Exceptions whose __init__ calls super().__init__() of an own exception class (without fields), and then stores one field. -/
namespace Rz
open PySem PySem.W PySem.Calls PyProof.Rows PySem.HandSPX
def exBodyU (f g : Str) (p0 p1 p2 p4 p5 q0 q1 q2 q3 : Pos) : List Stmt :=
  [.Expr (.Call (.Attribute (.Call (.Name "super" p0) [] [] p1) "__init__" p2) [] [] p4) p5,
   .Assign [.Attribute (.Name "self" q0) f q1] (.Name g q2) q3]
/-- an __init__ at fI, written in the class D, for instances of C -/
structure ExG (P : Program) (K : Frag) (D fI cc cda : Addr) (params : Arguments) (body : List Stmt) (scope : Scope) : Prop where
  tI : typeIn K (.ref fI) = some (.type "function")
  fn : ∃ (oc : Value) (od : Option Addr) (name qual : Str) (kV doc pm ct : Value) (an : Option Addr) (osl : Array (Option Value)),
    K.lookup fI = some ⟨oc, od, .func (fnX name qual params body scope [("__class__", cc)] .none kV doc pm an (.ref cda) ct), osl⟩ ∧ codeIn K (.ref cda) qual = true
  code : ∃ (ccl : Value) (cdd : Option Addr) (vs : Array Value) (ccs : Array (Option Value)) (file : Str) (tf : Tok),
    K.lookup cda = some ⟨ccl, cdd, .fields vs, ccs⟩ ∧ vs[2]? = some (.str file tf) ∧ ((P.main.file : Str) == file) = true
  cell : ∃ (cl : Value) (cld : Option Addr) (csl : Array (Option Value)), K.lookup cc = some ⟨cl, cld, .cell (some (.ref D)), csl⟩
  top : (P.main.scope.names.lookup ("super" : Str)).isSome = false
theorem ExF.toG {P : Program} {K : Frag} {C fI cc cda : Addr} {params : Arguments} {body : List Stmt} {scope : Scope} (T : ExF P K C fI cc cda params body scope) : ExG P K C fI cc cda params body scope := ⟨T.tI, T.fn, T.code, T.cell, T.top⟩
def SupOk0 (scope : Scope) (cc cda fI : Addr) (p0 p1 p2 p4 p5 : Pos) : Prop := ∀ (qual : Str) (L : Addr), ∃ pl : Sem Bool,
  swapsWith (.Call (.Attribute (.Call (.Name "super" p0) [] [] p1) "__init__" p2) [] [] p4) none p5.line (envX qual scope L fI (.ref cda) [("__class__", cc)]) = pure false ∧
  eval (.Call (.Attribute (.Call (.Name "super" p0) [] [] p1) "__init__" p2) [] [] p4) (envX qual scope L fI (.ref cda) [("__class__", cc)]) = (do
      let ov ← attributeBase (.Call (.Name "super" p0) [] [] p1) "__init__" (envX qual scope L fI (.ref cda) [("__class__", cc)]) (eval (.Call (.Name "super" p0) [] [] p1) (envX qual scope L fI (.ref cda) [("__class__", cc)]))
      standAt p2.atName
      let (f, first) ← holding [ov] (getMethod ov "__init__" pl)
      callWith p4 f first (backTo p4 (starEach [] (envX qual scope L fI (.ref cda) [("__class__", cc)]))) [])
section
variable {prog : Program} {w : World} {A : Around} {E : Value → Shared → Prop} {R : Result → Shared → Prop} {s : Shared} {K : Frag} {mg : Str → Option Value} {C D fI f2 cc cda : Addr} {params : Arguments} {body : List Stmt} {scope : Scope}
/-- the node super(): the object made -/
theorem sup_nodeG {Q : Value → Shared → Prop} {bodyT : List Stmt} {qual : Str} {whole : Sem Value} {p0 p1 : Pos} {L x t0 : Addr} {m : Str → Option Value} {a0 : Arg} (T0 : ExC K C) (TD : ExC K D) (hmro : mroIn K C (.ref D) = some true) (T : ExG prog K D fI cc cda params body scope)
    (X : K.In s.heap) (hg : s.heap.Ns mainGlobals mg) (hgs : mg "super" = none) (hb : ∃ mb, s.heap.Ns builtinsNs mb ∧ mb "super" = some (.type "super")) (hL : s.heap.Ns L m) (hself : m "self" = some (.ref x)) (hx : s.heap.get? x = some (excO C t0))
    (hk : scope.kind = .function) (hks : scope.names.lookup ("super" : Str) = some .globalImplicit) (hkc : scope.names.lookup ("__class__" : Str) = some .free) (hka : scope.names.lookup ("self" : Str) = some .local)
    (hp : (params.posonlyargs ++ params.args).head? = some a0) (ha0 : a0.arg = "self")
    (hq : ∀ h', h'.get? s.heap.objs.size = some { cls := .type "super", dict := none, data := .fields #[.ref D, .ref x, .ref C], slots := #[] } → (∀ y o, s.heap.get? y = some o → h'.get? y = some o) → Q (.ref s.heap.objs.size) { s with heap := h' }) :
    _root_.PySem.wpAt (model prog w) A (.func bodyT (envX qual scope L fI (.ref cda) [("__class__", cc)])) (attributeBase (.Call (.Name "super" p0) [] [] p1) "__init__" (envX qual scope L fI (.ref cda) [("__class__", cc)]) whole) Q E s := by
  obtain ⟨oc, od, name, qu, kV, doc, pm, ct, an, osl, hf, hcd⟩ := T.fn
  obtain ⟨ccl, cdd, vs, ccs, file, tf, hcode, hvs, hfile⟩ := T.code
  obtain ⟨cl, cld, csl, hcell⟩ := T.cell
  obtain ⟨nm, q, N, bs, bm, sn, sub, ab, col, dd, k0, k1, k2, k3, k5, hD, hbm⟩ := TD.cls
  obtain ⟨mb, hmb, hmbs⟩ := hb
  obtain ⟨hh, g, d, t, os⟩ := s
  refine ks_wpAt_super_base (env := envX qual scope L fI (.ref cda) [("__class__", cc)]) hks hkc rfl rfl (X _ _ hf) rfl hp rfl (X _ _ hcode) rfl hvs hfile T.top ?_
  refine ks_loadName_global hk hks (loadGlobal_builtin (env := envX qual scope L fI (.ref cda) [("__class__", cc)]) hg hgs hmb hmbs ⟨rfl, ?_⟩)
  refine wpAny_loadName_free hk hkc rfl ⟨_, X _ _ hcell, rfl⟩ ?_
  rw [ha0]
  refine wpAny_loadName_local hk hka hL hself ?_
  have hD1 := X _ _ hD
  refine ks_wpAny_isType_cls hD1 rfl ⟨rfl, ?_⟩
  exact ks_wpAny_call_super (ox := excO C t0) hD1 rfl hx rfl (fun c e => by cases e) (looks_mroIn X hmro) fun h' e k => hq h' e k
/-- super().__init__('..') written in D, for an instance of C -/
theorem sup_stmtG {bodyT : List Stmt} {qual msg : Str} {j : Nat} {p0 p1 p2 p3 p4 p5 : Pos} {L x t0 : Addr} {m : Str → Option Value} {a0 : Arg} {Q : Flow → Shared → Prop} (T0 : ExC K C) (TD : ExC K D) (hmro : mroIn K C (.ref D) = some true) (hsup : ks_superIn K C D "__init__" = some (some (.builtin "ValueError.__init__"))) (T : ExG prog K D fI cc cda params body scope)
    (X : K.In s.heap) (hg : s.heap.Ns mainGlobals mg) (hgs : mg "super" = none) (hb : ∃ mb, s.heap.Ns builtinsNs mb ∧ mb "super" = some (.type "super")) (hL : s.heap.Ns L m) (hself : m "self" = some (.ref x)) (hx : s.heap.get? x = some (excO C t0))
    (hk : scope.kind = .function) (hks : scope.names.lookup ("super" : Str) = some .globalImplicit) (hkc : scope.names.lookup ("__class__" : Str) = some .free) (hka : scope.names.lookup ("self" : Str) = some .local)
    (hp : (params.posonlyargs ++ params.args).head? = some a0) (ha0 : a0.arg = "self")
    (hev : SupOk scope cc cda fI msg j p0 p1 p2 p3 p4 p5)
    (hi : interactive (envX qual scope L fI (.ref cda) [("__class__", cc)]) = false)
    (hq : ∀ h' tk t1, (∀ b o, b ≠ x → s.heap.get? b = some o → h'.get? b = some o) → h'.get? x = some (excO C t1) → Q .next { s with heap := h', toks := tk }) :
    _root_.PySem.wpAt (model prog w) A (.func bodyT (envX qual scope L fI (.ref cda) [("__class__", cc)])) (exec (.Expr (.Call (.Attribute (.Call (.Name "super" p0) [] [] p1) "__init__" p2) [.Constant (.str msg) j p3] [] p4) p5) (envX qual scope L fI (.ref cda) [("__class__", cc)])) Q E s := by
  obtain ⟨nm, q, N, bs, bm, sn, sub, ab, col, dd, k0, k1, k2, k3, k5, hC, hbm⟩ := T0.cls
  obtain ⟨pl, hsw, hev⟩ := hev qual L
  refine ks_wpAt_Expr_any ?_ hi hsw
  refine ks_wpAt_MethodCall (pl := pl) ?_ hev
  refine sup_nodeG T0 TD hmro T X hg hgs hb hL hself hx hk hks hkc hka hp ha0 fun h' e k => ?_
  obtain ⟨hh, g, d, t, os⟩ := s
  have hC1 := X _ _ hC
  have hcl : clsIn K C = some { name := nm, bases := bs, mro := .ref C :: bm, ns := N, qualname := q, hasDict := true, slotNames := sn, subclasses := sub, abstract := ab, collection := col, hasDel := false } := by unfold clsIn; rw [hC] <;> rfl
  have X' : K.In h' := X.keeps k
  have hx' := k _ _ hx
  have I' : InstAt h' x (excO C t0) C none := ⟨hx', rfl, rfl, trivial⟩
  have hI : Looks (model prog w) h' (isInstance (.ref x) (.type "ValueError")) true := I'.type.andThen (looks_subIn X' T0.veC)
  unfold ks_superIn at hsup
  rw [hcl] at hsup
  refine kxs_getMethod kxs_ValueError e (looks_opaque X' T0.op) (l₀ := .ref C :: bm) (fun A Q E s k q => wpAny_bind ((looks_clsIn X' hcl) A _ E s k (wpAny_pure q))) rfl X' hsup hI (ks_ne X' I' hcl) (by decide) ?_
  have k2 : ∀ b o, hh.get? b = some o → (h'.push (kxs_mw "ValueError.__init__" x)).get? b = some o := fun b o z => Heap.get?_push_of_some _ (k b o z)
  have hst : starEach [.Constant (.str msg) j p3] (envX qual scope L fI (.ref cda) [("__class__", cc)]) = (false, eval (.Constant (.str msg) j p3) (envX qual scope L fI (.ref cda) [("__class__", cc)])) :: [] := rfl
  show wpAny _ _ (callWith p4 (.ref h'.objs.size) [] (backTo p4 (starEach [.Constant (.str msg) j p3] (envX qual scope L fI (.ref cda) [("__class__", cc)]))) []) _ _ _
  rw [hst]
  refine kxs_callWith (i := "ValueError.__init__") (x := x) (by rfl) ?_
  refine evalArgs_plain ?_
  show wpAny _ _ (spliced ((false, eval (.Constant (.str msg) j p3) _) :: [])) _ _ _
  refine Calls.spliced_cons (Calls.Constant_str (Calls.spliced_nil ⟨Heap.get?_push_at rfl rfl, ?_⟩))
  exact call_mw (k2 _ _ hC1) (k2 _ _ hx) (Heap.get?_push_at rfl rfl) (by show 1 ≤ sizeLine; rw [sizeLine_eq]; decide) (fun h2 t1 k3 hx2 => hq h2 _ t1 (fun b o hb z => k3 b o hb (k2 b o z)) hx2)
/-- the __init__ of D (no fields), called for an instance of C -/
theorem exc_init0G {msg : Str} {j : Nat} {p0 p1 p2 p3 p4 p5 : Pos} {x t0 : Addr} (T0 : ExC K C) (TD : ExC K D) (hmro : mroIn K C (.ref D) = some true) (hsup : ks_superIn K C D "__init__" = some (some (.builtin "ValueError.__init__"))) (T : ExG prog K D fI cc cda params (exBody0 msg j p0 p1 p2 p3 p4 p5) scope) (S : ScB scope params) (hev : SupOk scope cc cda fI msg j p0 p1 p2 p3 p4 p5)
    (hgen : scope.isGenerator = false) (hco : scope.isCoroutine = false)
    (hbind : ∀ (name qual : Str) (body : List Stmt) (kV doc pm ct : Value) (an : Option Addr), bindArgs (fnX name qual params body scope [("__class__", cc)] .none kV doc pm an (.ref cda) ct) ⟨[.ref x], []⟩ = pure [(("self" : Str), Value.ref x)])
    (X : K.In s.heap) (G : Gls s.heap mg) (hlim : s.heap.NoLimit) (hx : s.heap.get? x = some (excO C t0)) (hroom : A.depth < recursionLimit)
    (hq : ∀ h' tk t1, InitEnd0 s.heap h' x C t1 → R (.ok (.ret .none)) { s with heap := h', toks := tk }) :
    codeAny (model prog w) A (.call (.ref fI) ⟨[.ref x], []⟩) R s := by
  obtain ⟨oc, od, name, qual, kV, doc, pm, ct, an, osl, hf, hcd⟩ := T.fn
  obtain ⟨a0, hp, ha0⟩ := S.hp
  refine ks_codeAny_call_defAt hroom (X _ _ hf) rfl hlim (codeRec_of X hcd) rfl (.of_eq (hbind _ _ _ _ _ _ _ _)) S.hcell (fun y hy => ?_) (fun h0 hns k => ?_) hco hgen S.hk
  · simp only [List.mem_cons, List.not_mem_nil, or_false] at hy
    subst hy
    exact S.hka
  have m1 : (([("self", Value.ref x)] : List (Str × Value)).reverse.lookup ("self" : Str)) = some (.ref x) := by
    show List.lookup ("self" : Str) [("self", Value.ref x)] = _
    simp [List.lookup]
  refine ks_wpAt_execs_cons (sup_stmtG T0 TD hmro hsup T (X.keeps k) (G.keeps k).g G.s (G.keeps k).b hns m1 (k _ _ hx) S.hk S.hks S.hkc S.hka hp ha0 hev (by show interactive _ = false; simp [interactive, S.hk]) (fun h1 tk t1 k1 hx1 => ?_))
  refine _root_.PySem.wpAt_of_wpAny ?_
  exact wpAny_execs_nil (hq h1 _ t1 ⟨fun b o hb e => k1 b o hb (k b o e), hx1⟩)
/-- what the call of D's __init__ needs -/
structure InD (P : Program) (K : Frag) (C D f2 : Addr) : Prop where
  mro : mroIn K C (.ref D) = some true
  sup : ks_superIn K C D "__init__" = some (some (.builtin "ValueError.__init__"))
  own : ks_superIn K C C "__init__" = some (some (.ref f2))
  mroC : mroIn K C (.ref C) = some true
  fn : fnIn K f2 = true
  ex : ∃ (cc cda : Addr) (params : Arguments) (msg : Str) (j : Nat) (p0 p1 p2 p3 p4 p5 : Pos) (scope : Scope), ExG P K D f2 cc cda params (exBody0 msg j p0 p1 p2 p3 p4 p5) scope ∧ ScB scope params ∧
    SupOk scope cc cda f2 msg j p0 p1 p2 p3 p4 p5 ∧ scope.isGenerator = false ∧ scope.isCoroutine = false ∧
    ∀ (x : Addr) (name qual : Str) (body : List Stmt) (kV doc pm ct : Value) (an : Option Addr), bindArgs (fnX name qual params body scope [("__class__", cc)] .none kV doc pm an (.ref cda) ct) ⟨[.ref x], []⟩ = pure [(("self" : Str), Value.ref x)]
/-- super().__init__() written in C, whose next __init__ is D's -/
theorem sup_stmtU {bodyT : List Stmt} {qual : Str} {p0 p1 p2 p4 p5 : Pos} {L x t0 : Addr} {m : Str → Option Value} {a0 : Arg} {Q : Flow → Shared → Prop} (T0 : ExC K C) (TD : ExC K D) (TI : InD prog K C D f2) (T : ExG prog K C fI cc cda params body scope)
    (X : K.In s.heap) (G : Gls s.heap mg) (hlim : s.heap.NoLimit) (hL : s.heap.Ns L m) (hself : m "self" = some (.ref x)) (hx : s.heap.get? x = some (excO C t0)) (hroom : A.depth + 1 < recursionLimit)
    (hk : scope.kind = .function) (hks : scope.names.lookup ("super" : Str) = some .globalImplicit) (hkc : scope.names.lookup ("__class__" : Str) = some .free) (hka : scope.names.lookup ("self" : Str) = some .local)
    (hp : (params.posonlyargs ++ params.args).head? = some a0) (ha0 : a0.arg = "self")
    (hev : SupOk0 scope cc cda fI p0 p1 p2 p4 p5)
    (hi : interactive (envX qual scope L fI (.ref cda) [("__class__", cc)]) = false)
    (hq : ∀ h' tk t1, (∀ b o, b ≠ x → s.heap.get? b = some o → h'.get? b = some o) → h'.get? x = some (excO C t1) → Q .next { s with heap := h', toks := tk }) :
    _root_.PySem.wpAt (model prog w) A (.func bodyT (envX qual scope L fI (.ref cda) [("__class__", cc)])) (exec (.Expr (.Call (.Attribute (.Call (.Name "super" p0) [] [] p1) "__init__" p2) [] [] p4) p5) (envX qual scope L fI (.ref cda) [("__class__", cc)])) Q E s := by
  obtain ⟨nm, q, N, bs, bm, sn, sub, ab, col, dd, k0, k1, k2, k3, k5, hC, hbm⟩ := T0.cls
  obtain ⟨cc2, cda2, params2, msg, j, r0, r1, r2, r3, r4, r5, scope2, TF, S2, hev2, hgen2, hco2, hbind2⟩ := TI.ex
  obtain ⟨pl, hsw, hev⟩ := hev qual L
  refine ks_wpAt_Expr_any ?_ hi hsw
  refine ks_wpAt_MethodCall (pl := pl) ?_ hev
  refine sup_nodeG T0 T0 TI.mroC T X G.g G.s G.b hL hself hx hk hks hkc hka hp ha0 fun h' e k => ?_
  obtain ⟨hh, g, d, t, os⟩ := s
  have hC1 := X _ _ hC
  have hcl : clsIn K C = some { name := nm, bases := bs, mro := .ref C :: bm, ns := N, qualname := q, hasDict := true, slotNames := sn, subclasses := sub, abstract := ab, collection := col, hasDel := false } := by unfold clsIn; rw [hC] <;> rfl
  have X' : K.In h' := X.keeps k
  have hx' := k _ _ hx
  have I' : InstAt h' x (excO C t0) C none := ⟨hx', rfl, rfl, trivial⟩
  have hsup := TI.own
  unfold ks_superIn at hsup
  rw [hcl] at hsup
  obtain ⟨of, hof, hofc⟩ : ∃ of, h'.get? f2 = some of ∧ of.cls = .type "function" := by
    have ht' : (K.lookup f2).map (·.cls) = some (.type "function") := TF.tI
    cases z : K.lookup f2 with
    | none => rw [z] at ht'; cases ht'
    | some of => rw [z] at ht'; exact ⟨of, X' _ _ z, Option.some.inj ht'⟩
  refine ks_wpAny_getMethod_super e (looks_opaque X' T0.op) (l₀ := .ref C :: bm) (fun A Q E s k q => wpAny_bind ((looks_clsIn X' hcl) A _ E s k (wpAny_pure q))) rfl X' hsup hof hofc (ks_ne X' I' hcl) (by decide) ?_
  have k2 : ∀ b o, hh.get? b = some o → (h'.push (methodObj (.ref f2) (.ref x))).get? b = some o := fun b o z => Heap.get?_push_of_some _ (k b o z)
  have hm : (h'.push (methodObj (.ref f2) (.ref x))).get? h'.objs.size = some (methodObj (.ref f2) (.ref x)) := Heap.get?_push_at rfl rfl
  have X2 : K.In (h'.push (methodObj (.ref f2) (.ref x))) := X.keeps k2
  show wpAny _ _ (callWith p4 (.ref h'.objs.size) [] (backTo p4 (starEach [] (envX qual scope L fI (.ref cda) [("__class__", cc)]))) []) _ _ _
  refine callWith_M0 (K := K) (g := f2) (self := .ref x) ⟨hm, X2⟩ TI.fn ?_
  refine wpAny_call (method_call hm ?_)
  refine exc_init0G (mg := mg) T0 TD TI.mro TI.sup TF S2 hev2 hgen2 hco2 (fun name qual body kV doc pm ct an => hbind2 _ name qual body kV doc pm ct an) X2 (G.keeps k2) (hlim.keeps k2) (k2 _ _ hx) ?_ (fun h2 tk t1 M => ?_)
  · exact Nat.lt_of_succ_lt hroom
  · exact hq h2 tk t1 (fun b o hb z => M.keep b o hb (k2 b o z)) M.obj
theorem exc_initU {f g : Str} {p0 p1 p2 p4 p5 q0 q1 q2 q3 : Pos} {x t0 : Addr} {v : Value} (T0 : ExC K C) (TD : ExC K D) (TI : InD prog K C D f2) (T : ExG prog K C fI cc cda params (exBodyU f g p0 p1 p2 p4 p5 q0 q1 q2 q3) scope) (S : ScI scope params g) (hev : SupOk0 scope cc cda fI p0 p1 p2 p4 p5)
    (hno : findIn K (.ref C) f = some none) (hgen : scope.isGenerator = false) (hco : scope.isCoroutine = false)
    (hbind : ∀ (name qual : Str) (body : List Stmt) (kV doc pm ct : Value) (an : Option Addr), bindArgs (fnX name qual params body scope [("__class__", cc)] .none kV doc pm an (.ref cda) ct) ⟨[.ref x, v], []⟩ = pure [(("self" : Str), Value.ref x), (g, v)])
    (X : K.In s.heap) (G : Gls s.heap mg) (hlim : s.heap.NoLimit) (hx : s.heap.get? x = some (excO C t0)) (hnx : K.lookup x = none) (hroom : A.depth + 2 < recursionLimit) 
    (hq : ∀ h' tk dx t1, InitEnd s.heap h' x C dx t1 f v → R (.ok (.ret .none)) { s with heap := h', toks := tk }) :
    codeAny (model prog w) A (.call (.ref fI) ⟨[.ref x, v], []⟩) R s := by
  obtain ⟨oc, od, name, qual, kV, doc, pm, ct, an, osl, hf, hcd⟩ := T.fn
  obtain ⟨nm, q, N, bs, bm, sn, sub, ab, col, dd, k0, k1, k2, k3, k5, hC, hbm⟩ := T0.cls
  obtain ⟨a0, hp, ha0⟩ := S.hp
  have hcl : clsIn K C = some { name := nm, bases := bs, mro := .ref C :: bm, ns := N, qualname := q, hasDict := true, slotNames := sn, subclasses := sub, abstract := ab, collection := col, hasDel := false } := by unfold clsIn; rw [hC] <;> rfl
  refine ks_codeAny_call_defAt (by omega) (X _ _ hf) rfl hlim (codeRec_of X hcd) rfl (.of_eq (hbind _ _ _ _ _ _ _ _)) S.hcell (fun y hy => ?_) (fun h0 hns k => ?_) hco hgen S.hk
  · simp only [List.mem_cons, List.not_mem_nil, or_false] at hy
    rcases hy with rfl | rfl
    · exact S.hka
    · exact S.hkg
  have m1 : (([("self", Value.ref x), (g, v)] : List (Str × Value)).reverse.lookup ("self" : Str)) = some (.ref x) := by
    show List.lookup ("self" : Str) [(g, v), ("self", Value.ref x)] = _
    have e : (("self" : Str) == g) = false := by simpa using S.hgs
    simp [List.lookup, e]
  have m2 : (([("self", Value.ref x), (g, v)] : List (Str × Value)).reverse.lookup g) = some v := by
    show List.lookup g [(g, v), ("self", Value.ref x)] = _
    simp [List.lookup]
  have hxL : s.heap.objs.size ≠ x := Nat.ne_of_gt (Heap.lt_size hx)
  refine ks_wpAt_execs_cons (sup_stmtU T0 TD TI T (X.keeps k) (G.keeps k) (hlim.keeps k) hns m1 (k _ _ hx) (by show A.depth + 1 + 1 < recursionLimit; omega) S.hk S.hks S.hkc S.hka hp ha0 hev (by show interactive _ = false; simp [interactive, S.hk]) (fun h1 tk t1 k1 hx1 => ?_))
  have X1 : K.In h1 := kept_but (X.keeps k) hnx k1
  have hns1 : h1.Ns s.heap.objs.size (fun y => (([("self", Value.ref x), (g, v)] : List (Str × Value)).reverse.lookup y)) := by
    obtain ⟨o, es, ep, ho, r⟩ := hns
    exact ⟨o, es, ep, k1 _ o hxL ho, r⟩
  refine _root_.PySem.wpAt_of_wpAny ?_
  refine wpAny_execs_cons (plainObj_wpAny_Assign_Attribute ?_ (by rfl))
  refine ldX (v := v) hns1 m2 (ldX (v := .ref x) hns1 m1 ?_ S.hk S.hka rfl) S.hk S.hkg S.hgd
  refine set_plain X1 (ox := excO C t1) (od := none) ⟨hx1, rfl, rfl, trivial⟩ T0.sa ?_
  refine exc_osa X1 hx1 hcl (show refsVE (.ref C :: bm) = true from hbm) rfl hno (fun h₃ tk₃ dx k₃ dn dne hx₃ hn₃ => ?_)
  refine wpAny_execs_nil (hq h₃ tk₃ dx t1 ⟨fun b o hb e => k₃ b o hb (k1 b o hb (k b o e)), hx₃, ?_, dne, hn₃⟩)
  obtain ⟨oL, _, _, hoL, _⟩ := hns1
  have z : s.heap.objs.size < h1.objs.size := Heap.lt_size hoL
  exact Nat.le_of_lt (Nat.lt_of_lt_of_le z dn)
end
/-- an exception class whose __init__ calls that of an own class without fields -/
structure ExUp (P : Program) (K : Frag) (C : Addr) (f : Str) : Prop where
  c : ExC K C
  no : findIn K (.ref C) f = some none
  ex : ∃ (D f2 fI cc cda : Addr) (params : Arguments) (g : Str) (p0 p1 p2 p4 p5 q0 q1 q2 q3 : Pos) (scope : Scope), ExC K D ∧ InD P K C D f2 ∧ findIn K (.ref C) "__init__" = some (some (.ref fI)) ∧ ExG P K C fI cc cda params (exBodyU f g p0 p1 p2 p4 p5 q0 q1 q2 q3) scope ∧ ScI scope params g ∧
    SupOk0 scope cc cda fI p0 p1 p2 p4 p5 ∧ scope.isGenerator = false ∧ scope.isCoroutine = false ∧
    ∀ (x : Addr) (v : Value) (name qual : Str) (body : List Stmt) (kV doc pm ct : Value) (an : Option Addr), bindArgs (fnX name qual params body scope [("__class__", cc)] .none kV doc pm an (.ref cda) ct) ⟨[.ref x, v], []⟩ = pure [(("self" : Str), Value.ref x), (g, v)]
section
variable {prog : Program} {w : World} {A : Around} {E : Value → Shared → Prop} {R : Result → Shared → Prop} {s : Shared} {K : Frag} {mg : Str → Option Value} {C : Addr} {f : Str}
theorem exc_madeU (T : ExUp prog K C f) {v : Value} (X : K.In s.heap) (G : Gls s.heap mg) (hlim : s.heap.NoLimit) (hroom : A.depth + 3 < recursionLimit)
    (hq : ∀ h' tk e d, OwnMade s.heap h' e C d f v → R (.ok (.ret (.ref e))) { s with heap := h', toks := tk }) :
    codeAny (model prog w) A (.call (.ref C) ⟨[v], []⟩) R s := by
  obtain ⟨D, f2, fI, cc, cda, params, g, p0, p1, p2, p4, p5, q0, q1, q2, q3, scope, TD, TI, iC, TF, S, hev, hgen, hco, hbind⟩ := T.ex
  obtain ⟨nm, q, N, bs, bm, sn, sub, ab, col, dd, k0, k1, k2, k3, k5, hC, hbm⟩ := T.c.cls
  obtain ⟨hp, gg, dr, tk, os⟩ := s
  have k : ∀ b o, hp.get? b = some o → ((hp.push (kdv_tup [v])).push (excO C hp.objs.size)).get? b = some o := fun b o e => Heap.get?_push_of_some _ (Heap.get?_push_of_some _ e)
  have hget : ((hp.push (kdv_tup [v])).push (excO C hp.objs.size)).get? (hp.objs.size + 1) = some (excO C hp.objs.size) := by heap_get
  have hnx : K.lookup (hp.objs.size + 1) = none := by
    cases e : K.lookup (hp.objs.size + 1) with
    | none => rfl
    | some o =>
      have z : hp.get? (hp.objs.size + 1) = some o := X _ _ e
      exact absurd (Nat.lt_of_succ_lt (Heap.lt_size z)) (Nat.lt_irrefl _)
  refine call_own F.excBase_ValueError (fun X => refsVE_contains X bm hbm) (X _ _ hC) (looks_findIn X iC) (fun self => bind_fn X self TF.tI) (one_size v) ?_
  refine exc_initU (mg := mg) (s := ⟨(hp.push (kdv_tup [v])).push (excO C hp.objs.size), gg, dr, tk, os⟩) T.c TD TI TF S hev T.no hgen hco (fun name qual body kV doc pm ct an => hbind _ _ name qual body kV doc pm ct an) (X.keeps k) (G.keeps k) (hlim.keeps k) hget hnx ?_ fun h' tk' dx t1 ⟨k', hx, dn, dne, hns⟩ => ?_
  · show A.depth + 1 + 2 < recursionLimit
    exact hroom
  · have old : ∀ b o, hp.get? b = some o → h'.get? b = some o := fun b o e => k' b o (Nat.ne_of_lt (Nat.lt_succ_of_lt (Heap.lt_size e))) (k b o e)
    have z : hp.objs.size + 1 + 1 ≤ dx := by
      first
        | (simpa only [Heap.size_push] using dn)
        | exact dn
        | (have q := dn; rw [Heap.size_push, Heap.size_push] at q; exact q)
    exact ⟨rfl, hq h' tk' (hp.objs.size + 1) dx ⟨old, Nat.le_succ _, ⟨_, _, hx, rfl, rfl, rfl, rfl⟩, Nat.le_trans (Nat.le_trans (Nat.le_succ _) (Nat.le_succ _)) z, dne, hns⟩⟩
end
end Rz

namespace L2
open PySem PySem.Spec PyProof.Rows
section
variable {X : Cx} {C : Addr}
/-- C(e), an exception with one field whose __init__ calls an own one -/
theorem pmk_supU {x f : Str} {a : Expr} {ta : TA} {p pos : Pos} {k : Nat} (T : Rz.ExUp X.prog X.K C f) (hs : X.mg "super" = none) (hr : Room k X.A) (hg : Gl X x) (hm : X.mg x = some (.ref C)) (ha : PA X [a] ta)
    (hdb : (x == ("__debug__" : Str)) = false := by decide)
    (he : starEach (a :: []) X.env = (false, eval a X.env) :: starEach [] X.env := by rfl) (hpl : (backTo pos (starEach [] X.env)).any (·.1) = false := by rfl) :
    PMk X (.Call (.Name x p) [a] [] pos) (tMkX C f ta) := by
  intro pins s σ H Q I h
  refine wpAny_Call_Name_kw (ld_glob I hg hm ?_ hdb)
  refine PySem.W.callWith_K (h₀ := X.base) I.ok.mod.kin T.c.kC (thn (ha.run pos pins s σ H _ I h) fun us s1 hh => ?_) he hpl
  obtain ⟨vs, H1, I1, r1, v, ev, q1⟩ := hh
  subst ev
  refine ⟨I1.kIn, ?_⟩
  cases r1 with
  | cons rv rn =>
    rename_i v' us'
    cases rn
    show wpAny _ _ (call (.ref C) [v']) _ _ _
    have hlim := I1.nolimit
    have G := I1.gls hs
    obtain ⟨hp, g, dr, tk, os⟩ := s1
    refine wpAny_call (Rz.exc_madeU (mg := X.mg) T I1.kIn G hlim (by have := hr.dp; omega) fun h' tk' e d M => ?_)
    show MkP X pins σ Q (.ref e) ⟨h', g, dr, tk', os⟩
    obtain ⟨oe, fv, hoe, hc, hd, hdat, h1⟩ := M.obj
    have hns := M.ns
    obtain ⟨G', g1, g2⟩ := restrict h' fun b => decide (b ≠ e)
    have gk : ∀ b, b ≠ e → G'.get? b = h'.get? b := fun b hb => g1 b (decide_eq_true hb)
    have ge : G'.get? e = none := g2 e (by simp)
    have old : ∀ b o, hp.get? b = some o → G'.get? b = some o := fun b o q => (gk b (Nat.ne_of_lt (Nat.lt_of_lt_of_le (Heap.lt_size q) M.new))).trans (M.keep b o q)
    have hns' : G'.Ns1 d (fun y => if y = f then some v' else none) := by
      obtain ⟨o, es, ep, ho, r⟩ := hns
      exact ⟨o, es, ep, (gk d M.dne).trans ho, r⟩
    have J : Inv X pins σ (upd H1 d (.xd [(f, v)])) ⟨G', g, dr, tk', os⟩ := I1.laid (t' := tk') old M.dbig ⟨_, hns', relO_one rv f⟩
    refine ⟨e, oe, fv, ⟨G', g, dr, tk', os⟩, _, .ref C, some d, rfl, J, fun b o q => ?_, ge, hoe, ⟨hc, hd⟩, hdat, h1, ?_, rfl, J.bare, raises_own T.c.exC T.c.tyC, q1 d (I1.hok.fresh M.dbig)⟩
    · by_cases hb : b = e
      · have q' : G'.get? b = some o := q
        rw [hb, ge] at q'; cases q'
      · exact (gk b hb).symm.trans q
    · rw [upd_ne (Ne.symm M.dne)]
      exact I1.hok.fresh M.new
end
end L2

/-! What the head must say of an exception class x over an own class y without fields. -/
namespace Rz
open PySem PySem.Spec PyProof.Rows L2 He
def iniUB (P : Program) (x : Str) : Fg → Bool := fun K => eqO (PySem.W.findIn K (.ref (ga K x)) "__init__") (some (some (.ref (pM x "__init__" K)))) && (decide (PySem.W.typeIn K (.ref (pM x "__init__" K)) = some (.type "function")) &&
  (fileB P (cdOf (pM x "__init__" K) K) K && decide (cellOf K (ccOf (pM x "__init__" K) K) = some (some (.ref (ga K x))))))
theorem iniUB_ok {P : Program} {x : Str} {K : Fg} {d : Dq} (h : iniUB P x K = true) (ht : (P.main.scope.names.lookup ("super" : Str)).isSome = false) (hd : d.at_ = pM x "__init__") (e : fnQ K (d.at_ K) = d.val) (c : d.ok K = true) (hc : d.clo = [("__class__" : Str)]) (hdf : d.dfl = []) :
    PySem.W.findIn K (.ref (ga K x)) "__init__" = some (some (.ref (pM x "__init__" K))) ∧ ExG P K (ga K x) (pM x "__init__" K) (ccOf (pM x "__init__" K) K) (cdOf (pM x "__init__" K) K) d.params d.body d.scope := by
  obtain ⟨h1, h⟩ := ba h
  obtain ⟨h2, h⟩ := ba h
  obtain ⟨h3, h4⟩ := ba h
  obtain ⟨oc, od, osl, cl, dV, kV, doc, pm, an, cdv, ct, g1, g2, g3, g4, g5, g6⟩ := Dq.parts e c
  rw [hc] at g2
  rw [hd] at g1
  obtain ⟨cc, rfl⟩ : ∃ cc, cl = [(("__class__" : Str), cc)] := by
    cases cl with
    | nil => cases g2
    | cons p r =>
      obtain ⟨n, cc⟩ := p
      cases r with
      | nil =>
        have : n = "__class__" := by simpa using g2
        exact ⟨cc, by rw [this]⟩
      | cons _ _ => simp at g2
  have hdv : dV = .none := by
    rcases g5 with ⟨_, z⟩ | ⟨z, _⟩
    · exact z
    · exact absurd (by unfold Dq.dvs; rw [hdf]; rfl) z
  subst hdv
  obtain ⟨cda, rfl⟩ : ∃ cda, cdv = .ref cda := by
    cases cdv with
    | ref a => exact ⟨a, rfl⟩
    | _ => cases g4
  have ecc : ccOf (pM x "__init__" K) K = cc := by
    unfold ccOf
    rw [funOf_eq g1]
    rfl
  have ecd : cdOf (pM x "__init__" K) K = cda := by
    unfold cdOf
    rw [funOf_eq g1]
    rfl
  rw [ecc, ecd]
  rw [ecc] at h4
  rw [ecd] at h3
  refine ⟨eqO_ok h1, of_decide_eq_true h2, ⟨oc, od, d.name, d.qual, kV, doc, pm, ct, an, osl, g1, g4⟩, fileB_ok h3, ?_, ht⟩
  obtain ⟨a, b, c', q⟩ := cellOf_ok (of_decide_eq_true h4)
  exact ⟨a, b, c', q⟩
/-- x over y -/
def overB (x y : Str) : Fg → Bool := fun K => decide (PySem.W.mroIn K (ga K x) (.ref (ga K y)) = some true) && (eqO (PySem.W.ks_superIn K (ga K x) (ga K y) "__init__") (some (some (.builtin "ValueError.__init__"))) &&
  (eqO (PySem.W.ks_superIn K (ga K x) (ga K x) "__init__") (some (some (.ref (pM y "__init__" K)))) && (decide (PySem.W.mroIn K (ga K x) (.ref (ga K x)) = some true) && PySem.W.fnIn K (pM y "__init__" K))))
theorem overB_ok {x y : Str} {K : Fg} (h : overB x y K = true) : PySem.W.mroIn K (ga K x) (.ref (ga K y)) = some true ∧ PySem.W.ks_superIn K (ga K x) (ga K y) "__init__" = some (some (.builtin "ValueError.__init__")) ∧
    PySem.W.ks_superIn K (ga K x) (ga K x) "__init__" = some (some (.ref (pM y "__init__" K))) ∧ PySem.W.mroIn K (ga K x) (.ref (ga K x)) = some true ∧ PySem.W.fnIn K (pM y "__init__" K) = true := by
  obtain ⟨h1, h⟩ := ba h
  obtain ⟨h2, h⟩ := ba h
  obtain ⟨h3, h⟩ := ba h
  obtain ⟨h4, h5⟩ := ba h
  exact ⟨of_decide_eq_true h1, eqO_ok h2, eqO_ok h3, of_decide_eq_true h4, h5⟩
end Rz

/-! e.m(), e a class, m a classmethod of it, without arguments. -/
namespace L2
open PySem PySem.Spec PyProof.Rows
section
variable {X : Cx} {CX : CXT} {k : Nat} {g C p : Addr} {m : Str} {sp : Sp} {E : St → XK} {o : Expr} {ta : TE} {apos pos : Pos}
theorem pe_cmS0 {pl : Sem Bool} (he : PE X o ta) (c : CmC X.K C m p g) (F : FnR X.prog X.w X.K X.mg X.base CX k g sp) (hr : Room k X.A) (hx : ∀ σ, PassesAt CX X σ (E σ))
    (ht : eval (.Call (.Attribute o m apos) [] [] pos) X.env = (do
      let ov ← eval o X.env
      standAt apos.atName
      let (f, first) ← holding [ov] (getMethod ov m pl)
      callWith pos f first (backTo pos (starEach [] X.env)) (backToKw pos (keywordEach [] X.env))) := by rfl) :
    PE X (.Call (.Attribute o m apos) [] [] pos) (tCMS C sp E ta tNil) := by
  obtain ⟨mc, r, c⟩ := c
  refine ⟨fun pins s σ H Q I h => ?_⟩
  refine PySem.W.methodCall_KW (pl := pl) (thn (he.run pins s σ H _ I h) fun u s1 ⟨x, H1, I1, rx, ex, q⟩ => ?_) ht
  subst ex
  obtain rfl : u = Value.ref C := rx
  refine ClX.getmethcm_ok I1 r c fun s2 I2 => ?_
  refine PySem.W.callWith_M0 (K := X.K) (g := g) (self := .ref C) ⟨ClX.pin_at I2, I2.kIn⟩ c.fi ?_
  exact run_cmS (us := []) (vs := []) F hr (hx σ) I2 .nil q
end
end L2

/-! list(a dict) -/
namespace L2
open PySem PySem.Spec PyProof.Rows
def rListDk : List V → Hp → VK → Prop := fun xs H Q => ∃ (a : Addr) (kvs : List (Key × V)), xs = [.ref a] ∧ Rd H a (.dK kvs) ∧ ∀ p, H p = none → Q (.ref p) (upd H p (.lst (kvs.map fun kv => kV kv.1)))
theorem cr_listDk {X : Cx} (hc : X.calm = true) : CallR X (.type "list") rListDk := call_listD hc
end L2

namespace Lw
open PySem PySem.Spec PyProof.Rows L2
def top (i : Nat) : Stmt := PySem.Challenge.pw_risensigns_k15_lot_refused.main.body.getD i (.Pass ⟨0, 0, 0, 0⟩)
abbrev PROG : Program := PySem.Challenge.pw_risensigns_k15_lot_refused
abbrev s_law_pool : Stmt := top 14
abbrev s_law_pick : Stmt := top 15
abbrev s_law_alphabet : Stmt := top 16
abbrev s_law_word_of : Stmt := top 17
abbrev s_law_led_from : Stmt := top 19
abbrev s_law_lot_of : Stmt := top 20
abbrev s_law_raw : Stmt := top 26
abbrev s_law_odd_sign : Stmt := top 22
abbrev s_law_spoilt : Stmt := top 27
abbrev s_law_first_odd : Stmt := top 23
abbrev s_law_spread : Stmt := top 21
abbrev s_law_due_of : Stmt := top 24
abbrev s_is_sign : Stmt := top 8
abbrev s_reached : Stmt := top 11
abbrev s_Lot_init : Stmt := inClass (top 12) 0
abbrev s_Lot_states : Stmt := inClass (top 12) 3
abbrev s_law_try_make : Stmt := top 25
abbrev s_law_is_int : Stmt := top 18
abbrev s_check_text : Stmt := top 7
abbrev s_Lot_every : Stmt := inClass (top 12) 1
abbrev s_Lot_only : Stmt := inClass (top 12) 2
abbrev s_law_named : Stmt := top 28
abbrev s_law : Stmt := top 29
abbrev s_BadLot_init : Stmt := inClass (top 3) 0
abbrev s_Useless_init : Stmt := inClass (top 4) 0
abbrev s_BadSign_init : Stmt := inClass (top 2) 0
structure Txt (P : Program) (K : Frg) (mg : Str → Option Value) : Prop where
  f_abs : mg "abs" = none
  f_int : mg "int" = none
  f_range : mg "range" = none
  F_law_pool : ∃ fd, FunD K "_law_pool" "_law_pool" (defArgs s_law_pool) (defBody s_law_pool) (defScope s_law_pool) [] [] (Rz.pG "_law_pool" K) fd
  g__law_pool : mg "_law_pool" = some (.ref (He.ga K "_law_pool"))
  F_law_pick : ∃ fd, FunD K "_law_pick" "_law_pick" (defArgs s_law_pick) (defBody s_law_pick) (defScope s_law_pick) [] [] (Rz.pG "_law_pick" K) fd
  f_len : mg "len" = none
  g__law_pick : mg "_law_pick" = some (.ref (He.ga K "_law_pick"))
  F_law_alphabet : ∃ fd, FunD K "_law_alphabet" "_law_alphabet" (defArgs s_law_alphabet) (defBody s_law_alphabet) (defScope s_law_alphabet) [] [] (Rz.pG "_law_alphabet" K) fd
  g__law_alphabet : mg "_law_alphabet" = some (.ref (He.ga K "_law_alphabet"))
  f_sorted : mg "sorted" = none
  f_list : mg "list" = none
  F_law_word_of : ∃ fd, FunD K "_law_word_of" "_law_word_of" (defArgs s_law_word_of) (defBody s_law_word_of) (defScope s_law_word_of) [] [] (Rz.pG "_law_word_of" K) fd
  g__law_word_of : mg "_law_word_of" = some (.ref (He.ga K "_law_word_of"))
  F_law_led_from : ∃ fd, FunD K "_law_led_from" "_law_led_from" (defArgs s_law_led_from) (defBody s_law_led_from) (defScope s_law_led_from) [] [] (Rz.pG "_law_led_from" K) fd
  g__law_led_from : mg "_law_led_from" = some (.ref (He.ga K "_law_led_from"))
  F_law_lot_of : ∃ fd, FunD K "_law_lot_of" "_law_lot_of" (defArgs s_law_lot_of) (defBody s_law_lot_of) (defScope s_law_lot_of) [] [] (Rz.pG "_law_lot_of" K) fd
  g__law_lot_of : mg "_law_lot_of" = some (.ref (He.ga K "_law_lot_of"))
  F_law_raw : ∃ fd, FunD K "_law_raw" "_law_raw" (defArgs s_law_raw) (defBody s_law_raw) (defScope s_law_raw) [] [] (Rz.pG "_law_raw" K) fd
  g__law_raw : mg "_law_raw" = some (.ref (He.ga K "_law_raw"))
  F_law_odd_sign : ∃ fd, FunD K "_law_odd_sign" "_law_odd_sign" (defArgs s_law_odd_sign) (defBody s_law_odd_sign) (defScope s_law_odd_sign) [] [] (Rz.pG "_law_odd_sign" K) fd
  g__law_odd_sign : mg "_law_odd_sign" = some (.ref (He.ga K "_law_odd_sign"))
  F_law_spoilt : ∃ fd, FunD K "_law_spoilt" "_law_spoilt" (defArgs s_law_spoilt) (defBody s_law_spoilt) (defScope s_law_spoilt) [] [] (Rz.pG "_law_spoilt" K) fd
  g__law_spoilt : mg "_law_spoilt" = some (.ref (He.ga K "_law_spoilt"))
  F_law_first_odd : ∃ fd, FunD K "_law_first_odd" "_law_first_odd" (defArgs s_law_first_odd) (defBody s_law_first_odd) (defScope s_law_first_odd) [] [] (Rz.pG "_law_first_odd" K) fd
  g__law_first_odd : mg "_law_first_odd" = some (.ref (He.ga K "_law_first_odd"))
  F_law_spread : ∃ fd, FunD K "_law_spread" "_law_spread" (defArgs s_law_spread) (defBody s_law_spread) (defScope s_law_spread) [] [] (Rz.pG "_law_spread" K) fd
  g__law_spread : mg "_law_spread" = some (.ref (He.ga K "_law_spread"))
  F_law_due_of : ∃ fd, FunD K "_law_due_of" "_law_due_of" (defArgs s_law_due_of) (defBody s_law_due_of) (defScope s_law_due_of) [] [] (Rz.pG "_law_due_of" K) fd
  g__law_due_of : mg "_law_due_of" = some (.ref (He.ga K "_law_due_of"))
  k_MOST_STATES : ∃ t, mg "MOST_STATES" = some (.int 40 t)
  xb_BadLot : Rz.ExC K (He.ga K "BadLot") ∧ XfC K (He.ga K "BadLot")
  x_BadLot : Rz.ExZero P K (He.ga K "BadLot")
  f_super : mg "super" = none
  g_BadLot : mg "BadLot" = some (.ref (He.ga K "BadLot"))
  n_Lot_table : NoAttr K (He.ga K "Lot") "table"
  c_Lot : Cls K (He.ga K "Lot")
  k_SIGNS : ∃ t, mg "SIGNS" = some (.str "abcdefghijklmnopqrstuvwxyz" t)
  F_is_sign : ∃ fd, FunD K "is_sign" "is_sign" (defArgs s_is_sign) (defBody s_is_sign) (defScope s_is_sign) [] [] (Rz.pG "is_sign" K) fd
  g_is_sign : mg "is_sign" = some (.ref (He.ga K "is_sign"))
  n_Lot_many : NoAttr K (He.ga K "Lot") "many"
  f_set : mg "set" = none
  n_Lot_finals : NoAttr K (He.ga K "Lot") "finals"
  F_reached : ∃ fd, FunD K "reached" "reached" (defArgs s_reached) (defBody s_reached) (defScope s_reached) [] [] (Rz.pG "reached" K) fd
  g_reached : mg "reached" = some (.ref (He.ga K "reached"))
  xb_Useless : Rz.ExC K (He.ga K "Useless") ∧ XfC K (He.ga K "Useless")
  n_Useless_state : NoAttr K (He.ga K "Useless") "state"
  iy_BadLot : PySem.W.findIn K (.ref (He.ga K "BadLot")) "__init__" = some (some (.ref (Rz.pM "BadLot" "__init__" K)))
  ov_Useless : PySem.W.mroIn K (He.ga K "Useless") (.ref (He.ga K "BadLot")) = some true
  x_Useless : Rz.ExUp P K (He.ga K "Useless") "state"
  g_Useless : mg "Useless" = some (.ref (He.ga K "Useless"))
  F_Lot_init : ∃ fd, FunD K "__init__" "Lot.__init__" (defArgs s_Lot_init) (defBody s_Lot_init) (defScope s_Lot_init) [] [] (Rz.pM "Lot" "__init__" K) fd
  mk_Lot : Mk K (He.ga K "Lot") (Rz.pM "Lot" "__init__" K)
  g_Lot : mg "Lot" = some (.ref (He.ga K "Lot"))
  F_Lot_states : ∃ fd, FunD K "states" "Lot.states" (defArgs s_Lot_states) (defBody s_Lot_states) (defScope s_Lot_states) [] [] (Rz.pP "Lot" "states" K) fd
  p_Lot_states : PropOf K (He.ga K "Lot") "states" (Rz.recAt "Lot" "states" K) (Rz.pP "Lot" "states" K)
  F_law_try_make : ∃ fd, FunD K "_law_try_make" "_law_try_make" (defArgs s_law_try_make) (defBody s_law_try_make) (defScope s_law_try_make) [] [] (Rz.pG "_law_try_make" K) fd
  g__law_try_make : mg "_law_try_make" = some (.ref (He.ga K "_law_try_make"))
  f_isinstance : mg "isinstance" = none
  f_bool : mg "bool" = none
  F_law_is_int : ∃ fd, FunD K "_law_is_int" "_law_is_int" (defArgs s_law_is_int) (defBody s_law_is_int) (defScope s_law_is_int) [] [] (Rz.pG "_law_is_int" K) fd
  g__law_is_int : mg "_law_is_int" = some (.ref (He.ga K "_law_is_int"))
  f_enumerate : mg "enumerate" = none
  xb_BadSign : Rz.ExC K (He.ga K "BadSign") ∧ XfC K (He.ga K "BadSign")
  n_BadSign_at : NoAttr K (He.ga K "BadSign") "at"
  x_BadSign : Rz.ExOne P K (He.ga K "BadSign") "at"
  g_BadSign : mg "BadSign" = some (.ref (He.ga K "BadSign"))
  F_check_text : ∃ fd, FunD K "check_text" "check_text" (defArgs s_check_text) (defBody s_check_text) (defScope s_check_text) [] [] (Rz.pG "check_text" K) fd
  g_check_text : mg "check_text" = some (.ref (He.ga K "check_text"))
  F_Lot_every : ∃ fd, FunD K "every" "Lot.every" (defArgs s_Lot_every) (defBody s_Lot_every) (defScope s_Lot_every) [] [] (Rz.pC "Lot" "every" K) fd
  cm_Lot_every : CmC K (He.ga K "Lot") "every" (Rz.recAt "Lot" "every" K) (Rz.pC "Lot" "every" K)
  F_Lot_only : ∃ fd, FunD K "only" "Lot.only" (defArgs s_Lot_only) (defBody s_Lot_only) (defScope s_Lot_only) [] [] (Rz.pC "Lot" "only" K) fd
  cm_Lot_only : CmC K (He.ga K "Lot") "only" (Rz.recAt "Lot" "only" K) (Rz.pC "Lot" "only" K)
  F_law_named : ∃ fd, FunD K "_law_named" "_law_named" (defArgs s_law_named) (defBody s_law_named) (defScope s_law_named) [] [] (Rz.pG "_law_named" K) fd
  g__law_named : mg "_law_named" = some (.ref (He.ga K "_law_named"))
  F_law : ∃ fd, FunD K "law" "law" (defArgs s_law) (defBody s_law) (defScope s_law) [] [] (Rz.pG "law" K) fd
  g_law : mg "law" = some (.ref (He.ga K "law"))
  e_BadLot_Useless : PySem.W.exmOne K (.ref (He.ga K "BadLot")) (.ref (He.ga K "Useless")) = some false
  e_BadLot_BadLot : PySem.W.exmOne K (.ref (He.ga K "BadLot")) (.ref (He.ga K "BadLot")) = some true
  e_BadLot_BadSign : PySem.W.exmOne K (.ref (He.ga K "BadLot")) (.ref (He.ga K "BadSign")) = some false
  e_Useless_Useless : PySem.W.exmOne K (.ref (He.ga K "Useless")) (.ref (He.ga K "Useless")) = some true
  e_Useless_BadLot : PySem.W.exmOne K (.ref (He.ga K "Useless")) (.ref (He.ga K "BadLot")) = some true
  e_Useless_BadSign : PySem.W.exmOne K (.ref (He.ga K "Useless")) (.ref (He.ga K "BadSign")) = some false
  e_BadSign_Useless : PySem.W.exmOne K (.ref (He.ga K "BadSign")) (.ref (He.ga K "Useless")) = some false
  e_BadSign_BadLot : PySem.W.exmOne K (.ref (He.ga K "BadSign")) (.ref (He.ga K "BadLot")) = some false
  e_BadSign_BadSign : PySem.W.exmOne K (.ref (He.ga K "BadSign")) (.ref (He.ga K "BadSign")) = some true
def fa0 : List (Rz.Fg → Bool) := [
  fun K => (He.Fa.free "abs").ok K,
  fun K => (He.Fa.free "int").ok K,
  fun K => (He.Fa.free "range").ok K,
  fun K => (He.Fa.glo "_law_pool").ok K,
  fun K => (He.Fa.free "len").ok K,
  fun K => (He.Fa.glo "_law_pick").ok K,
  fun K => (He.Fa.glo "_law_alphabet").ok K,
  fun K => (He.Fa.free "sorted").ok K,
  fun K => (He.Fa.free "list").ok K,
  fun K => (He.Fa.glo "_law_word_of").ok K,
  fun K => (He.Fa.glo "_law_led_from").ok K,
  fun K => (He.Fa.glo "_law_lot_of").ok K,
  fun K => (He.Fa.glo "_law_raw").ok K,
  fun K => (He.Fa.glo "_law_odd_sign").ok K,
  fun K => (He.Fa.glo "_law_spoilt").ok K,
  fun K => (He.Fa.glo "_law_first_odd").ok K,
  fun K => (He.Fa.glo "_law_spread").ok K,
  fun K => (He.Fa.glo "_law_due_of").ok K,
  fun K => (He.Fa.int "MOST_STATES" 40).ok K,
  Rz.excB "BadLot",
  Rz.iniB PROG "BadLot",
  fun K => (He.Fa.free "super").ok K,
  fun K => (He.Fa.glo "BadLot").ok K,
  fun K => (He.Fa.noat "Lot" "table").ok K,
  fun K => (He.Fa.cls "Lot").ok K,
  fun K => (He.Fa.str "SIGNS" "abcdefghijklmnopqrstuvwxyz").ok K,
  fun K => (He.Fa.glo "is_sign").ok K,
  fun K => (He.Fa.noat "Lot" "many").ok K,
  fun K => (He.Fa.free "set").ok K,
  fun K => (He.Fa.noat "Lot" "finals").ok K,
  fun K => (He.Fa.glo "reached").ok K,
  Rz.excB "Useless",
  fun K => (He.Fa.noat "Useless" "state").ok K,
  Rz.iniUB PROG "BadLot",
  Rz.overB "Useless" "BadLot",
  Rz.iniUB PROG "Useless",
  fun K => (He.Fa.glo "Useless").ok K,
  fun K => (He.Fa.mkr "Lot").ok K,
  fun K => (He.Fa.glo "Lot").ok K,
  Rz.propB "Lot" "states",
  fun K => (He.Fa.glo "_law_try_make").ok K,
  fun K => (He.Fa.free "isinstance").ok K,
  fun K => (He.Fa.free "bool").ok K,
  fun K => (He.Fa.glo "_law_is_int").ok K,
  fun K => (He.Fa.free "enumerate").ok K,
  Rz.excB "BadSign",
  fun K => (He.Fa.noat "BadSign" "at").ok K,
  Rz.iniB PROG "BadSign"]
def fa1 : List (Rz.Fg → Bool) := [
  fun K => (He.Fa.glo "BadSign").ok K,
  fun K => (He.Fa.glo "check_text").ok K,
  Rz.cmB "Lot" "every",
  Rz.cmB "Lot" "only",
  fun K => (He.Fa.glo "_law_named").ok K,
  fun K => (He.Fa.glo "law").ok K,
  fun K => (He.Fa.exm "BadLot" "Useless" false).ok K,
  fun K => (He.Fa.exm "BadLot" "BadLot" true).ok K,
  fun K => (He.Fa.exm "BadLot" "BadSign" false).ok K,
  fun K => (He.Fa.exm "Useless" "Useless" true).ok K,
  fun K => (He.Fa.exm "Useless" "BadLot" true).ok K,
  fun K => (He.Fa.exm "Useless" "BadSign" false).ok K,
  fun K => (He.Fa.exm "BadSign" "Useless" false).ok K,
  fun K => (He.Fa.exm "BadSign" "BadLot" false).ok K,
  fun K => (He.Fa.exm "BadSign" "BadSign" true).ok K]
def d_law_pool : Rz.Dq := ⟨Rz.pG "_law_pool", "_law_pool", "_law_pool", defArgs s_law_pool, defBody s_law_pool, defScope s_law_pool, [], [], []⟩
def d_law_pick : Rz.Dq := ⟨Rz.pG "_law_pick", "_law_pick", "_law_pick", defArgs s_law_pick, defBody s_law_pick, defScope s_law_pick, [], [], []⟩
def d_law_alphabet : Rz.Dq := ⟨Rz.pG "_law_alphabet", "_law_alphabet", "_law_alphabet", defArgs s_law_alphabet, defBody s_law_alphabet, defScope s_law_alphabet, [], [], []⟩
def d_law_word_of : Rz.Dq := ⟨Rz.pG "_law_word_of", "_law_word_of", "_law_word_of", defArgs s_law_word_of, defBody s_law_word_of, defScope s_law_word_of, [], [], []⟩
def d_law_led_from : Rz.Dq := ⟨Rz.pG "_law_led_from", "_law_led_from", "_law_led_from", defArgs s_law_led_from, defBody s_law_led_from, defScope s_law_led_from, [], [], []⟩
def d_law_lot_of : Rz.Dq := ⟨Rz.pG "_law_lot_of", "_law_lot_of", "_law_lot_of", defArgs s_law_lot_of, defBody s_law_lot_of, defScope s_law_lot_of, [], [], []⟩
def d_law_raw : Rz.Dq := ⟨Rz.pG "_law_raw", "_law_raw", "_law_raw", defArgs s_law_raw, defBody s_law_raw, defScope s_law_raw, [], [], []⟩
def d_law_odd_sign : Rz.Dq := ⟨Rz.pG "_law_odd_sign", "_law_odd_sign", "_law_odd_sign", defArgs s_law_odd_sign, defBody s_law_odd_sign, defScope s_law_odd_sign, [], [], []⟩
def d_law_spoilt : Rz.Dq := ⟨Rz.pG "_law_spoilt", "_law_spoilt", "_law_spoilt", defArgs s_law_spoilt, defBody s_law_spoilt, defScope s_law_spoilt, [], [], []⟩
def d_law_first_odd : Rz.Dq := ⟨Rz.pG "_law_first_odd", "_law_first_odd", "_law_first_odd", defArgs s_law_first_odd, defBody s_law_first_odd, defScope s_law_first_odd, [], [], []⟩
def d_law_spread : Rz.Dq := ⟨Rz.pG "_law_spread", "_law_spread", "_law_spread", defArgs s_law_spread, defBody s_law_spread, defScope s_law_spread, [], [], []⟩
def d_law_due_of : Rz.Dq := ⟨Rz.pG "_law_due_of", "_law_due_of", "_law_due_of", defArgs s_law_due_of, defBody s_law_due_of, defScope s_law_due_of, [], [], []⟩
def d_is_sign : Rz.Dq := ⟨Rz.pG "is_sign", "is_sign", "is_sign", defArgs s_is_sign, defBody s_is_sign, defScope s_is_sign, [], [], []⟩
def d_reached : Rz.Dq := ⟨Rz.pG "reached", "reached", "reached", defArgs s_reached, defBody s_reached, defScope s_reached, [], [], []⟩
def d_Lot_init : Rz.Dq := ⟨Rz.pM "Lot" "__init__", "__init__", "Lot.__init__", defArgs s_Lot_init, defBody s_Lot_init, defScope s_Lot_init, [], [], []⟩
def d_Lot_states : Rz.Dq := ⟨Rz.pP "Lot" "states", "states", "Lot.states", defArgs s_Lot_states, defBody s_Lot_states, defScope s_Lot_states, [], [], []⟩
def d_law_try_make : Rz.Dq := ⟨Rz.pG "_law_try_make", "_law_try_make", "_law_try_make", defArgs s_law_try_make, defBody s_law_try_make, defScope s_law_try_make, [], [], []⟩
def d_law_is_int : Rz.Dq := ⟨Rz.pG "_law_is_int", "_law_is_int", "_law_is_int", defArgs s_law_is_int, defBody s_law_is_int, defScope s_law_is_int, [], [], []⟩
def d_check_text : Rz.Dq := ⟨Rz.pG "check_text", "check_text", "check_text", defArgs s_check_text, defBody s_check_text, defScope s_check_text, [], [], []⟩
def d_Lot_every : Rz.Dq := ⟨Rz.pC "Lot" "every", "every", "Lot.every", defArgs s_Lot_every, defBody s_Lot_every, defScope s_Lot_every, [], [], []⟩
def d_Lot_only : Rz.Dq := ⟨Rz.pC "Lot" "only", "only", "Lot.only", defArgs s_Lot_only, defBody s_Lot_only, defScope s_Lot_only, [], [], []⟩
def d_law_named : Rz.Dq := ⟨Rz.pG "_law_named", "_law_named", "_law_named", defArgs s_law_named, defBody s_law_named, defScope s_law_named, [], [], []⟩
def d_law : Rz.Dq := ⟨Rz.pG "law", "law", "law", defArgs s_law, defBody s_law, defScope s_law, [], [], []⟩
def d_BadLot_init : Rz.Dq := ⟨Rz.pM "BadLot" "__init__", "__init__", "BadLot.__init__", defArgs s_BadLot_init, defBody s_BadLot_init, defScope s_BadLot_init, ["__class__"], [], []⟩
def d_Useless_init : Rz.Dq := ⟨Rz.pM "Useless" "__init__", "__init__", "Useless.__init__", defArgs s_Useless_init, defBody s_Useless_init, defScope s_Useless_init, ["__class__"], [], []⟩
def d_BadSign_init : Rz.Dq := ⟨Rz.pM "BadSign" "__init__", "__init__", "BadSign.__init__", defArgs s_BadSign_init, defBody s_BadSign_init, defScope s_BadSign_init, ["__class__"], [], []⟩
def fn0 : List Rz.Dq := [d_law_pool, d_law_pick, d_law_alphabet, d_law_word_of, d_law_led_from, d_law_lot_of, d_law_raw, d_law_odd_sign, d_law_spoilt, d_law_first_odd, d_law_spread, d_law_due_of, d_is_sign, d_reached]
def fn1 : List Rz.Dq := [d_Lot_init, d_Lot_states, d_law_try_make, d_law_is_int, d_check_text, d_Lot_every, d_Lot_only, d_law_named, d_law, d_BadLot_init, d_Useless_init, d_BadSign_init]
def fa : List (Rz.Fg → Bool) := fa0 ++ fa1
def fn : List Rz.Dq := fn0 ++ fn1
abbrev R : PySem.W.OpenRow := PySem.W.OpenLaw.row PySem.Challenge.rw_risensigns_k15_lot_refused
abbrev hk : PySem.W.Hook := Rz.hookR 5 fa fn
def ob (s : PySem.W.SharedT) : Rz.AlR := Rz.obsRG 5 fa fn (HandSHeadRun.getT s)
theorem ob_eq (s : PySem.W.SharedT) : ob s = hk.obs s.abs := Rz.obsRG_eq (HandSHeadRun.getT_eq s)
def loose0 : List PySem.Str := ["RiseError", "BadSign", "BadLot", "Useless", "SIGNS", "check_text", "is_sign", "MOST_STATES", "reached", "Lot", "_law_pool", "_law_pick", "_law_alphabet", "_law_word_of", "_law_is_int", "_law_led_from", "_law_lot_of", "_law_spread", "_law_odd_sign", "_law_first_odd"]
def loose1 : List PySem.Str := ["_law_due_of", "_law_try_make", "_law_raw", "_law_spoilt", "_law_named"]
def loose : List PySem.Str := loose0 ++ loose1
theorem headL (w : World) : Rz.LkEq R 9000 w := by
  intro os
  kernel_rfl
theorem headS (w : World) : Rz.SnEq R (PySem.W.view R.prog [29]) 9000 loose w := by
  intro os
  kernel_rfl
theorem rnv0 (w : World) : Rz.ObEqV R 9000 5 fa0 fn0 (true, [d_law_pool.val, d_law_pick.val, d_law_alphabet.val, d_law_word_of.val, d_law_led_from.val, d_law_lot_of.val, d_law_raw.val, d_law_odd_sign.val, d_law_spoilt.val, d_law_first_odd.val, d_law_spread.val, d_law_due_of.val, d_is_sign.val, d_reached.val]) w := by
  intro os
  kernel_rfl
theorem run0 (w : World) : Rz.ObEq R 9000 5 fa0 fn0 w := (rnv0 w).to rfl
theorem rnv1 (w : World) : Rz.ObEqV R 9000 5 fa1 fn1 (true, [d_Lot_init.val, d_Lot_states.val, d_law_try_make.val, d_law_is_int.val, d_check_text.val, d_Lot_every.val, d_Lot_only.val, d_law_named.val, d_law.val, d_BadLot_init.val, d_Useless_init.val, d_BadSign_init.val]) w := by
  intro os
  kernel_rfl
theorem run1 (w : World) : Rz.ObEq R 9000 5 fa1 fn1 w := (rnv1 w).to rfl
theorem run (w : World) : HandSHeadRun.RunEq R (PySem.W.view R.prog [29]) hk ob 9000 loose w := Rz.run_all (headL w) (headS w) (Rz.ObEq.app (run0 w) (run1 w))
section
variable {w : World} {K : Frg} {mg : Str → Option Value} {base : Heap}
/-! _law_pool -/
abbrev N_law_pool : List Str := ["_law_script", "_law_draws", "_law_seed", "_law_cell", "_law_k", "_law_rest", "_law_value"]
def t_law_pool (K : Frg) (E : XK) : TS :=
  (tSeq (tAsg (tLst tNil) (gName 1)) (tSeq (tAsg (tC (.int 0)) (gName 2)) (tSeq (tFor (iList K (tVar 0)) (gName 3) (tSeq (tAsg (tCB (rAbsA) (tCons (tVar 3) tNil)) (gName 5)) (tSeq (tAsg (tOp rModA (tCB (rIntA) (tCons (tOp rAddA (tOp rMulA (tVar 2) (tC (.int 31))) (tVar 5)) tNil)) (tC (.int 1009))) (gName 2)) (tIfS (tTest (tOp rLtA (tVar 5) (tOp rPowA (tC (.int 10)) (tC (.int 18))))) (tDrop (tBM K "list" rAppend (tVar 1) (tCons (tVar 5) tNil))) (tFor (iRng1 (tCons (tC (.int 60)) tNil)) (gName 4) (tIfS (tTest (tOp rGtA (tVar 5) (tC (.int 0)))) (tSeq (tDrop (tBM K "list" rAppend (tVar 1) (tCons (tOp rModA (tCB (rIntA) (tCons (tVar 5) tNil)) (tC (.int 1000))) tNil))) (tAsg (tOp rDivA (tVar 5) (tC (.int 1000))) (gName 5))) tNext)))))) (tSeq (tFor (iRng1 (tCons (tC (.int 90)) tNil)) (gName 4) (tSeq (tAsg (tOp rModA (tCB (rIntA) (tCons (tOp rMulA (tOp rAddA (tVar 2) (tC (.int 1))) (tOp rAddA (tOp rDivA (tOp rAddA (tOp rMulA (tOp rMulA (tC (.int 3)) (tVar 4)) (tVar 4)) (tOp rMulA (tC (.int 5)) (tVar 4))) (tC (.int 2))) (tC (.int 7)))) tNil)) (tC (.int 1009))) (gName 6)) (tDrop (tBM K "list" rAppend (tVar 1) (tCons (tOp rModA (tCB (rIntA) (tCons (tOp rAddA (tOp rMulA (tVar 6) (tVar 6)) (tVar 4)) tNil)) (tC (.int 1013))) tNil))))) (tRet (tVar 1))))))
def sp_law_pool (K : Frg) : Sp := fun vs H Q E => vs.length = 1 ∧ t_law_pool K E { nx := fun _ H' => Q .non H', rt := Q } (start N_law_pool vs) H
theorem sc_law_pool : FnScope N_law_pool ["_law_script"] (defScope s_law_pool) := ⟨rfl, rfl, rfl, by decide +kernel, rfl, by decide +kernel, by decide +kernel⟩
theorem ok_law_pool (T : Txt PROG K mg) : ∃ fd, FnOk PROG w K mg base (L2.CX PROG w) 1 (Rz.pG "_law_pool" K) fd ["_law_script"] (sp_law_pool K) ∧ FunD K "_law_pool" "_law_pool" (defArgs s_law_pool) (defBody s_law_pool) (defScope s_law_pool) [] [] (Rz.pG "_law_pool" K) fd := by
  obtain ⟨fd, F⟩ := T.F_law_pool
  refine ⟨fd, F.ok sc_law_pool (fun vs H Q E h => h.1) (fun cdv A outer s H vs Q E hr h => ⟨t_law_pool K E, ?_, h.2⟩), F⟩
  exact (pss_cons (ps_set (i := 1) sc_law_pool.nd rfl (by first | exact Or.inl rfl | exact Or.inr rfl) (pe_lst pa_nil)) (pss_cons (ps_set (i := 2) sc_law_pool.nd rfl (by first | exact Or.inl rfl | exact Or.inr rfl) pe_int) (pss_cons (ps_for (passes_of rfl) rfl (pi_list (pv 0)) (pg_name (i := 3) sc_law_pool.nd rfl (by first | exact Or.inl rfl | exact Or.inr rfl)) (pss_cons (ps_set (i := 5) sc_law_pool.nd rfl (by first | exact Or.inl rfl | exact Or.inr rfl) (pe_callB c_abs rfl T.f_abs (by decide +kernel) (pa_cons (pv 3) pa_nil))) (pss_cons (ps_set (i := 2) sc_law_pool.nd rfl (by first | exact Or.inl rfl | exact Or.inr rfl) (pe_op op_modA (pe_callTy c_int rfl T.f_int (by decide +kernel) (pa_cons (pe_op op_addA (pe_op op_mulA (pv 2) pe_int) (pv 5)) pa_nil)) pe_int)) (pss_one (ps_if (pt_cmpR op_ltA (pv 5) (pe_op op_powA pe_int pe_int) (nomark _)) (pss_one (ps_expr (pe_bm PySem.F.plainAttrs_list PySem.F.slot_list_append PySem.F.type_list_append mt_append (pv 1) (pa_cons (pv 5) pa_nil)))) (pss_one (ps_for (passes_of rfl) rfl (pi_range1 rfl T.f_range (pa_cons pe_int pa_nil)) (pg_name (i := 4) sc_law_pool.nd rfl (by first | exact Or.inl rfl | exact Or.inr rfl)) (pss_one (ps_if (pt_cmpR op_gtA (pv 5) pe_int (nomark _)) (pss_cons (ps_expr (pe_bm PySem.F.plainAttrs_list PySem.F.slot_list_append PySem.F.type_list_append mt_append (pv 1) (pa_cons (pe_op op_modA (pe_callTy c_int rfl T.f_int (by decide +kernel) (pa_cons (pv 5) pa_nil)) pe_int) pa_nil))) (pss_one (ps_set (i := 5) sc_law_pool.nd rfl (by first | exact Or.inl rfl | exact Or.inr rfl) (pe_op op_divA (pv 5) pe_int)))) pss_nil))))))))) (pss_cons (ps_for (passes_of rfl) rfl (pi_range1 rfl T.f_range (pa_cons pe_int pa_nil)) (pg_name (i := 4) sc_law_pool.nd rfl (by first | exact Or.inl rfl | exact Or.inr rfl)) (pss_cons (ps_set (i := 6) sc_law_pool.nd rfl (by first | exact Or.inl rfl | exact Or.inr rfl) (pe_op op_modA (pe_callTy c_int rfl T.f_int (by decide +kernel) (pa_cons (pe_op op_mulA (pe_op op_addA (pv 2) pe_int) (pe_op op_addA (pe_op op_divA (pe_op op_addA (pe_op op_mulA (pe_op op_mulA pe_int (pv 4)) (pv 4)) (pe_op op_mulA pe_int (pv 4))) pe_int) pe_int)) pa_nil)) pe_int)) (pss_one (ps_expr (pe_bm PySem.F.plainAttrs_list PySem.F.slot_list_append PySem.F.type_list_append mt_append (pv 1) (pa_cons (pe_op op_modA (pe_callTy c_int rfl T.f_int (by decide +kernel) (pa_cons (pe_op op_addA (pe_op op_mulA (pv 6) (pv 6)) (pv 4)) pa_nil)) pe_int) pa_nil)))))) (pss_one (ps_ret (pv 1)))))))
/-! _law_pick -/
abbrev N_law_pick : List Str := ["_law_draws", "_law_many"]
def t_law_pick (K : Frg) (E : XK) : TS :=
  (tSeq (tIfS (tTest (tOp (rEqA K) (tVar 0) (tLst tNil))) (tRet (tC (.int 0))) tNext) (tRet (tOp rModA (tCB (rIntA) (tCons (tBM K "list" rPopAt (tVar 0) (tCons (tC (.int 0)) tNil)) tNil)) (tVar 1))))
def sp_law_pick (K : Frg) : Sp := fun vs H Q E => vs.length = 2 ∧ t_law_pick K E { nx := fun _ H' => Q .non H', rt := Q } (start N_law_pick vs) H
theorem sc_law_pick : FnScope N_law_pick ["_law_draws", "_law_many"] (defScope s_law_pick) := ⟨rfl, rfl, rfl, by decide +kernel, rfl, by decide +kernel, by decide +kernel⟩
theorem ok_law_pick (T : Txt PROG K mg) : ∃ fd, FnOk PROG w K mg base (L2.CX PROG w) 1 (Rz.pG "_law_pick" K) fd ["_law_draws", "_law_many"] (sp_law_pick K) ∧ FunD K "_law_pick" "_law_pick" (defArgs s_law_pick) (defBody s_law_pick) (defScope s_law_pick) [] [] (Rz.pG "_law_pick" K) fd := by
  obtain ⟨fd, F⟩ := T.F_law_pick
  refine ⟨fd, F.ok sc_law_pick (fun vs H Q E h => h.1) (fun cdv A outer s H vs Q E hr h => ⟨t_law_pick K E, ?_, h.2⟩), F⟩
  exact (pss_cons (ps_if (pt_cmpR (op_eqA hr) (pv 0) (pe_lst pa_nil) (nomark _)) (pss_one (ps_ret pe_int)) pss_nil) (pss_one (ps_ret (pe_op op_modA (pe_callTy c_int rfl T.f_int (by decide +kernel) (pa_cons (pe_bm PySem.F.plainAttrs_list PySem.F.slot_list_pop PySem.F.type_list_pop mt_popAt (pv 0) (pa_cons pe_int pa_nil)) pa_nil)) (pv 1)))))
/-! _law_alphabet -/
abbrev N_law_alphabet : List Str := ["_law_draws", "_law_many", "_law_letters", "_law_signs", "_law_k", "_law_left", "_law_letter"]
def t_law_alphabet (K : Frg) (E : XK) : TS :=
  (tSeq (tAsg (tC (.str "abcdefghijklmnopqrstuvwxyz")) (gName 2)) (tSeq (tAsg (tC (.str "")) (gName 3)) (tSeq (tFor (iRng1 (tCons (tVar 1) tNil)) (gName 4) (tSeq (tAsg (tLc (iStr (tVar 2)) (gName 6) (tTest (tOp (rNotInA K) (tVar 6) (tVar 3))) (tVar 6) [6]) (gName 5)) (tAsg (tOp rAddA (tVar 3) (tOp (rIx K) (tVar 5) (tCallSD (sp_law_pick K) [] (WE (W0 E)) (tCons (tVar 0) (tCons (tCB (rLenA K) (tCons (tVar 5) tNil)) tNil))))) (gName 3)))) (tRet (tVar 3)))))
def sp_law_alphabet (K : Frg) : Sp := fun vs H Q E => vs.length = 2 ∧ t_law_alphabet K E { nx := fun _ H' => Q .non H', rt := Q } (start N_law_alphabet vs) H
theorem sc_law_alphabet : FnScope N_law_alphabet ["_law_draws", "_law_many"] (defScope s_law_alphabet) := ⟨rfl, rfl, rfl, by decide +kernel, rfl, by decide +kernel, by decide +kernel⟩
theorem ok_law_alphabet (T : Txt PROG K mg) : ∃ fd, FnOk PROG w K mg base (L2.CX PROG w) 2 (Rz.pG "_law_alphabet" K) fd ["_law_draws", "_law_many"] (sp_law_alphabet K) ∧ FunD K "_law_alphabet" "_law_alphabet" (defArgs s_law_alphabet) (defBody s_law_alphabet) (defScope s_law_alphabet) [] [] (Rz.pG "_law_alphabet" K) fd := by
  obtain ⟨fd_law_pick, G_law_pick, D_law_pick⟩ := ok_law_pick (w := w) (base := base) T
  have b_law_pick_2 : Binds K fd_law_pick _ [] := D_law_pick.bindsN (ps := ["_law_draws", "_law_many"]) (fun _ _ _ _ _ _ us hl => match us, hl with | [_, _], _ => rfl)
  obtain ⟨fd, F⟩ := T.F_law_alphabet
  refine ⟨fd, F.ok sc_law_alphabet (fun vs H Q E h => h.1) (fun cdv A outer s H vs Q E hr h => ⟨t_law_alphabet K E, ?_, h.2⟩), F⟩
  exact (pss_cons (ps_set (i := 2) sc_law_alphabet.nd rfl (by first | exact Or.inl rfl | exact Or.inr rfl) pe_str) (pss_cons (ps_set (i := 3) sc_law_alphabet.nd rfl (by first | exact Or.inl rfl | exact Or.inr rfl) pe_str) (pss_cons (ps_for (passes_of rfl) rfl (pi_range1 rfl T.f_range (pa_cons (pv 1) pa_nil)) (pg_name (i := 4) sc_law_alphabet.nd rfl (by first | exact Or.inl rfl | exact Or.inr rfl)) (pss_cons (by first | (refine ps_setLc (i := 5) (own := [("_law_letter", 6)]) rfl sc_law_alphabet.nd rfl rfl ?e ?f ?g ?h ?i ?j; (case e => exact sw_true rfl rfl rfl (by decide +kernel)); (case f => exact (pi_str (pv 2))); (case g => exact (blkOk_by (own := [("_law_letter", 6)]) (N := N_law_alphabet) (sc := defScope s_law_alphabet) (by decide +kernel))); (case h => exact (fun _ _ _ _ _ => (pg_name (i := 6) sc_law_alphabet.nd rfl (by first | exact Or.inl rfl | exact Or.inr rfl)))); (case i => exact (fun _ _ _ _ _ => (pts_one (pt_cmpR op_notInA (pv 6) (pv 3) (by rfl))))); (case j => exact (fun _ _ _ _ _ => (pv 6)))) | exact (ps_set (i := 5) sc_law_alphabet.nd rfl (by first | exact Or.inl rfl | exact Or.inr rfl) (pe_lc (own := [("_law_letter", 6)]) rfl sc_law_alphabet.nd (pi_str (pv 2)) (blkOk_by (own := [("_law_letter", 6)]) (N := N_law_alphabet) (sc := defScope s_law_alphabet) (by decide +kernel)) (fun _ _ _ _ _ => (pg_name (i := 6) sc_law_alphabet.nd rfl (by first | exact Or.inl rfl | exact Or.inr rfl))) (fun _ _ _ _ _ => (pts_one (pt_cmpR op_notInA (pv 6) (pv 3) (by rfl)))) (fun _ _ _ _ _ => (pv 6))))) (pss_one (ps_set (i := 3) sc_law_alphabet.nd rfl (by first | exact Or.inl rfl | exact Or.inr rfl) (pe_op op_addA (pv 3) (pe_ix ix_seq (pv 5) (pe_callSD G_law_pick (hr.mono (by decide)) rfl T.g__law_pick D_law_pick.kp b_law_pick_2 .nil (fun σ => passAt (takes_of rfl rfl rfl rfl) σ) (pa_cons (pv 0) (pa_cons (pe_callB c_len rfl T.f_len (by decide +kernel) (pa_cons (pv 5) pa_nil)) pa_nil))) (fun _ _ => rfl))))))) (pss_one (ps_ret (pv 3))))))
/-! _law_word_of -/
abbrev N_law_word_of : List Str := ["_law_draws", "_law_signs", "_law_least", "_law_greatest", "_law_size", "_law_k"]
def t_law_word_of (K : Frg) (E : XK) : TS :=
  (tSeq (tAsg (tOp rAddA (tVar 2) (tCallSD (sp_law_pick K) [] (WE (W0 E)) (tCons (tVar 0) (tCons (tOp rAddA (tOp rSubA (tVar 3) (tVar 2)) (tC (.int 1))) tNil)))) (gName 4)) (tRet (tM1 (rJoinA K) (tC (.str "")) (tLc (iRng1 (tCons (tVar 4) tNil)) (gName 5) tYes (tOp (rIx K) (tVar 1) (tCallSD (sp_law_pick K) [] (WE WN) (tCons (tVar 0) (tCons (tCB (rLenA K) (tCons (tVar 1) tNil)) tNil)))) [5]))))
def sp_law_word_of (K : Frg) : Sp := fun vs H Q E => vs.length = 4 ∧ t_law_word_of K E { nx := fun _ H' => Q .non H', rt := Q } (start N_law_word_of vs) H
theorem sc_law_word_of : FnScope N_law_word_of ["_law_draws", "_law_signs", "_law_least", "_law_greatest"] (defScope s_law_word_of) := ⟨rfl, rfl, rfl, by decide +kernel, rfl, by decide +kernel, by decide +kernel⟩
theorem ok_law_word_of (T : Txt PROG K mg) : ∃ fd, FnOk PROG w K mg base (L2.CX PROG w) 2 (Rz.pG "_law_word_of" K) fd ["_law_draws", "_law_signs", "_law_least", "_law_greatest"] (sp_law_word_of K) ∧ FunD K "_law_word_of" "_law_word_of" (defArgs s_law_word_of) (defBody s_law_word_of) (defScope s_law_word_of) [] [] (Rz.pG "_law_word_of" K) fd := by
  obtain ⟨fd_law_pick, G_law_pick, D_law_pick⟩ := ok_law_pick (w := w) (base := base) T
  have b_law_pick_2 : Binds K fd_law_pick _ [] := D_law_pick.bindsN (ps := ["_law_draws", "_law_many"]) (fun _ _ _ _ _ _ us hl => match us, hl with | [_, _], _ => rfl)
  obtain ⟨fd, F⟩ := T.F_law_word_of
  refine ⟨fd, F.ok sc_law_word_of (fun vs H Q E h => h.1) (fun cdv A outer s H vs Q E hr h => ⟨t_law_word_of K E, ?_, h.2⟩), F⟩
  exact (pss_cons (ps_set (i := 4) sc_law_word_of.nd rfl (by first | exact Or.inl rfl | exact Or.inr rfl) (pe_op op_addA (pv 2) (pe_callSD G_law_pick (hr.mono (by decide)) rfl T.g__law_pick D_law_pick.kp b_law_pick_2 .nil (fun σ => passAt (takes_of rfl rfl rfl rfl) σ) (pa_cons (pv 0) (pa_cons (pe_op op_addA (pe_op op_subA (pv 3) (pv 2)) pe_int) pa_nil))))) (pss_one (ps_ret (pe_joinA pe_str (pe_lc (own := [("_law_k", 5)]) rfl sc_law_word_of.nd (pi_range1 rfl T.f_range (pa_cons (pv 4) pa_nil)) (blkOk_by (own := [("_law_k", 5)]) (N := N_law_word_of) (sc := defScope s_law_word_of) (by decide +kernel)) (fun _ _ _ _ _ => (pg_name (i := 5) sc_law_word_of.nd rfl (by first | exact Or.inl rfl | exact Or.inr rfl))) (fun _ _ _ _ _ => pts_nil) (fun _ _ _ _ _ => (pe_ix ix_seq (pv 1) (pe_callSD G_law_pick (hr.mono (by decide)) rfl T.g__law_pick D_law_pick.kp b_law_pick_2 .nil (fun σ => passAt takes0 σ) (pa_cons (pv 0) (pa_cons (pe_callB c_len rfl T.f_len (by decide +kernel) (pa_cons (pv 1) pa_nil)) pa_nil))) (fun _ _ => rfl))))))))
/-! _law_led_from -/
abbrev N_law_led_from : List Str := ["_law_starts", "_law_arrows", "_law_found", "_law_k", "_law_start", "_law_goal"]
def t_law_led_from (K : Frg) (E : XK) : TS :=
  (tSeq (tAsg (tCB (rListA K) (tCons (tVar 0) tNil)) (gName 2)) (tSeq (tFor (iRng1 (tCons (tC (.int 8)) tNil)) (gName 3) (tFor (iList K (tVar 1)) (gTup K 2 (gCons (gName 4) (gCons (gName 5) gNil))) (tIfS (tAnd (tTest (tOp (rInA K) (tVar 4) (tVar 2))) (tTest (tOp (rNotInA K) (tVar 5) (tVar 2)))) (tDrop (tBM K "list" rAppend (tVar 2) (tCons (tVar 5) tNil))) tNext))) (tRet (tVar 2))))
def sp_law_led_from (K : Frg) : Sp := fun vs H Q E => vs.length = 2 ∧ t_law_led_from K E { nx := fun _ H' => Q .non H', rt := Q } (start N_law_led_from vs) H
theorem sc_law_led_from : FnScope N_law_led_from ["_law_starts", "_law_arrows"] (defScope s_law_led_from) := ⟨rfl, rfl, rfl, by decide +kernel, rfl, by decide +kernel, by decide +kernel⟩
theorem ok_law_led_from (T : Txt PROG K mg) : ∃ fd, FnOk PROG w K mg base (L2.CX PROG w) 1 (Rz.pG "_law_led_from" K) fd ["_law_starts", "_law_arrows"] (sp_law_led_from K) ∧ FunD K "_law_led_from" "_law_led_from" (defArgs s_law_led_from) (defBody s_law_led_from) (defScope s_law_led_from) [] [] (Rz.pG "_law_led_from" K) fd := by
  obtain ⟨fd, F⟩ := T.F_law_led_from
  refine ⟨fd, F.ok sc_law_led_from (fun vs H Q E h => h.1) (fun cdv A outer s H vs Q E hr h => ⟨t_law_led_from K E, ?_, h.2⟩), F⟩
  exact (pss_cons (ps_set (i := 2) sc_law_led_from.nd rfl (by first | exact Or.inl rfl | exact Or.inr rfl) (pe_callTy c_list rfl T.f_list (by decide +kernel) (pa_cons (pv 0) pa_nil))) (pss_cons (ps_for (passes_of rfl) rfl (pi_range1 rfl T.f_range (pa_cons pe_int pa_nil)) (pg_name (i := 3) sc_law_led_from.nd rfl (by first | exact Or.inl rfl | exact Or.inr rfl)) (pss_one (ps_for (passes_of rfl) rfl (pi_list (pv 1)) (pg_tup rfl (pgs_cons (pg_name (i := 4) sc_law_led_from.nd rfl (by first | exact Or.inl rfl | exact Or.inr rfl)) (pgs_cons (pg_name (i := 5) sc_law_led_from.nd rfl (by first | exact Or.inl rfl | exact Or.inr rfl)) pgs_nil))) (pss_one (ps_if (PW.pt (pw_and (pt_cmpR op_inA (pv 4) (pv 2) (by rfl)) (pw_and1 (pt_cmpR op_notInA (pv 5) (pv 2) (by rfl))))) (pss_one (ps_expr (pe_bm PySem.F.plainAttrs_list PySem.F.slot_list_append PySem.F.type_list_append mt_append (pv 2) (pa_cons (pv 5) pa_nil)))) pss_nil))))) (pss_one (ps_ret (pv 2)))))
/-! _law_lot_of -/
abbrev N_law_lot_of : List Str := ["_law_draws", "_law_signs", "_law_kind", "_law_many", "_law_moves", "_law_state", "_law_last", "_law_ahead", "_law_back", "_law_kept", "_law_inner", "_law_text", "_law_sign", "_law_goal", "_law_move", "_law_k"]
def t_law_lot_of (K : Frg) (E : XK) : TS :=
  (tSeq (tAsg (tCallSD (sp_law_pick K) [] (WE (W0 E)) (tCons (tVar 0) (tCons (tC (.int 3)) tNil))) (gName 2)) (tSeq (tIfS (tTest (tOp (rEqA K) (tVar 2) (tC (.int 0)))) (tRet (tTup (tCons (tC (.int 1)) (tCons (tLst (tCons (tC (.int 0)) tNil)) (tCons (tLc (iList K (tCB (rSortedD K) (tCons (tCB rListStr (tCons (tVar 1) tNil)) tNil))) (gName 12) tYes (tTup (tCons (tC (.int 0)) (tCons (tVar 12) (tCons (tC (.int 0)) tNil)))) [12]) tNil))))) tNext) (tSeq (tIfS (tTest (tOp (rEqA K) (tVar 2) (tC (.int 1)))) (tSeq (tAsg (tCallSD (sp_law_word_of K) [] (WE (W0 E)) (tCons (tVar 0) (tCons (tVar 1) (tCons (tC (.int 0)) (tCons (tC (.int 6)) tNil))))) (gName 11)) (tRet (tTup (tCons (tOp rAddA (tCB (rLenA K) (tCons (tVar 11) tNil)) (tC (.int 1))) (tCons (tLst (tCons (tCB (rLenA K) (tCons (tVar 11) tNil)) tNil)) (tCons (tLc (iRng1 (tCons (tCB (rLenA K) (tCons (tVar 11) tNil)) tNil)) (gName 15) tYes (tTup (tCons (tVar 15) (tCons (tOp (rIx K) (tVar 11) (tVar 15)) (tCons (tOp rAddA (tVar 15) (tC (.int 1))) tNil)))) [15]) tNil)))))) tNext) (tSeq (tAsg (tOp rAddA (tC (.int 1)) (tCallSD (sp_law_pick K) [] (WE (W0 E)) (tCons (tVar 0) (tCons (tC (.int 3)) tNil)))) (gName 3)) (tSeq (tAsg (tLst tNil) (gName 4)) (tSeq (tFor (iRng1 (tCons (tVar 3) tNil)) (gName 5) (tFor (iList K (tCB (rSortedD K) (tCons (tCB rListStr (tCons (tVar 1) tNil)) tNil))) (gName 12) (tSeq (tAsg (tCallSD (sp_law_pick K) [] (WE (W0 E)) (tCons (tVar 0) (tCons (tOp rAddA (tVar 3) (tC (.int 1))) tNil))) (gName 13)) (tIfS (tTest (tOp rLtA (tVar 13) (tVar 3))) (tDrop (tBM K "list" rAppend (tVar 4) (tCons (tTup (tCons (tVar 5) (tCons (tVar 12) (tCons (tVar 13) tNil)))) tNil))) tNext)))) (tSeq (tAsg (tLc (iRng1 (tCons (tVar 3) tNil)) (gName 5) (tTest (tOp (rEqA K) (tCallSD (sp_law_pick K) [] (WE WN) (tCons (tVar 0) (tCons (tC (.int 2)) tNil))) (tC (.int 1)))) (tVar 5) [5]) (gName 6)) (tSeq (tAsg (tCallSD (sp_law_led_from K) [] (WE (W0 E)) (tCons (tLst (tCons (tC (.int 0)) tNil)) (tCons (tLc (iList K (tVar 4)) (gName 14) tYes (tTup (tCons (tOp (rIx K) (tVar 14) (tC (.int 0))) (tCons (tOp (rIx K) (tVar 14) (tC (.int 2))) tNil))) [14]) tNil))) (gName 7)) (tSeq (tIfS (tTest (tOp (rEqA K) (tLc (iList K (tVar 6)) (gName 5) (tTest (tOp (rInA K) (tVar 5) (tVar 7))) (tVar 5) [5]) (tLst tNil))) (tAsg (tLst (tCons (tC (.int 0)) tNil)) (gName 6)) tNext) (tSeq (tAsg (tCallSD (sp_law_led_from K) [] (WE (W0 E)) (tCons (tVar 6) (tCons (tLc (iList K (tVar 4)) (gName 14) tYes (tTup (tCons (tOp (rIx K) (tVar 14) (tC (.int 2))) (tCons (tOp (rIx K) (tVar 14) (tC (.int 0))) tNil))) [14]) tNil))) (gName 8)) (tSeq (tAsg (tLc (iRng1 (tCons (tVar 3) tNil)) (gName 5) (tAnd (tTest (tOp (rInA K) (tVar 5) (tVar 7))) (tTest (tOp (rInA K) (tVar 5) (tVar 8)))) (tVar 5) [5]) (gName 9)) (tSeq (tAsg (tLc (iList K (tVar 4)) (gName 14) (tAnd (tTest (tOp (rInA K) (tOp (rIx K) (tVar 14) (tC (.int 0))) (tVar 9))) (tTest (tOp (rInA K) (tOp (rIx K) (tVar 14) (tC (.int 2))) (tVar 9)))) (tVar 14) [14]) (gName 10)) (tSeq (tAsg (tLc (iList K (tVar 10)) (gName 14) tYes (tTup (tCons (tBM K "list" (rIndex K) (tVar 9) (tCons (tOp (rIx K) (tVar 14) (tC (.int 0))) tNil)) (tCons (tOp (rIx K) (tVar 14) (tC (.int 1))) (tCons (tBM K "list" (rIndex K) (tVar 9) (tCons (tOp (rIx K) (tVar 14) (tC (.int 2))) tNil)) tNil)))) [14]) (gName 4)) (tRet (tTup (tCons (tCB (rLenA K) (tCons (tVar 9) tNil)) (tCons (tLc (iList K (tVar 6)) (gName 5) (tTest (tOp (rInA K) (tVar 5) (tVar 9))) (tBM K "list" (rIndex K) (tVar 9) (tCons (tVar 5) tNil)) [5]) (tCons (tVar 4) tNil))))))))))))))))))
def sp_law_lot_of (K : Frg) : Sp := fun vs H Q E => vs.length = 2 ∧ t_law_lot_of K E { nx := fun _ H' => Q .non H', rt := Q } (start N_law_lot_of vs) H
theorem sc_law_lot_of : FnScope N_law_lot_of ["_law_draws", "_law_signs"] (defScope s_law_lot_of) := ⟨rfl, rfl, rfl, by decide +kernel, rfl, by decide +kernel, by decide +kernel⟩
theorem ok_law_lot_of (T : Txt PROG K mg) : ∃ fd, FnOk PROG w K mg base (L2.CX PROG w) 3 (Rz.pG "_law_lot_of" K) fd ["_law_draws", "_law_signs"] (sp_law_lot_of K) ∧ FunD K "_law_lot_of" "_law_lot_of" (defArgs s_law_lot_of) (defBody s_law_lot_of) (defScope s_law_lot_of) [] [] (Rz.pG "_law_lot_of" K) fd := by
  obtain ⟨fd_law_pick, G_law_pick, D_law_pick⟩ := ok_law_pick (w := w) (base := base) T
  obtain ⟨fd_law_word_of, G_law_word_of, D_law_word_of⟩ := ok_law_word_of (w := w) (base := base) T
  obtain ⟨fd_law_led_from, G_law_led_from, D_law_led_from⟩ := ok_law_led_from (w := w) (base := base) T
  have b_law_pick_2 : Binds K fd_law_pick _ [] := D_law_pick.bindsN (ps := ["_law_draws", "_law_many"]) (fun _ _ _ _ _ _ us hl => match us, hl with | [_, _], _ => rfl)
  have b_law_word_of_4 : Binds K fd_law_word_of _ [] := D_law_word_of.bindsN (ps := ["_law_draws", "_law_signs", "_law_least", "_law_greatest"]) (fun _ _ _ _ _ _ us hl => match us, hl with | [_, _, _, _], _ => rfl)
  have b_law_led_from_2 : Binds K fd_law_led_from _ [] := D_law_led_from.bindsN (ps := ["_law_starts", "_law_arrows"]) (fun _ _ _ _ _ _ us hl => match us, hl with | [_, _], _ => rfl)
  obtain ⟨fd, F⟩ := T.F_law_lot_of
  refine ⟨fd, F.ok sc_law_lot_of (fun vs H Q E h => h.1) (fun cdv A outer s H vs Q E hr h => ⟨t_law_lot_of K E, ?_, h.2⟩), F⟩
  exact (pss_cons (ps_set (i := 2) sc_law_lot_of.nd rfl (by first | exact Or.inl rfl | exact Or.inr rfl) (pe_callSD G_law_pick (hr.mono (by decide)) rfl T.g__law_pick D_law_pick.kp b_law_pick_2 .nil (fun σ => passAt (takes_of rfl rfl rfl rfl) σ) (pa_cons (pv 0) (pa_cons pe_int pa_nil)))) (pss_cons (ps_if (pt_cmpR (op_eqA hr) (pv 2) pe_int (nomark _)) (pss_one (ps_ret (pe_tup (pa_cons pe_int (pa_cons (pe_lst (pa_cons pe_int pa_nil)) (pa_cons (pe_lc (own := [("_law_sign", 12)]) rfl sc_law_lot_of.nd (pi_list (pe_callB (cr_sortedD hr.units) rfl T.f_sorted (by decide +kernel) (pa_cons (pe_callTy (cr_listStr rfl) rfl T.f_list (by decide +kernel) (pa_cons (pv 1) pa_nil)) pa_nil))) (blkOk_by (own := [("_law_sign", 12)]) (N := N_law_lot_of) (sc := defScope s_law_lot_of) (by decide +kernel)) (fun _ _ _ _ _ => (pg_name (i := 12) sc_law_lot_of.nd rfl (by first | exact Or.inl rfl | exact Or.inr rfl))) (fun _ _ _ _ _ => pts_nil) (fun _ _ _ _ _ => (pe_tup (pa_cons pe_int (pa_cons (pv 12) (pa_cons pe_int pa_nil)))))) pa_nil)))))) pss_nil) (pss_cons (ps_if (pt_cmpR (op_eqA hr) (pv 2) pe_int (nomark _)) (pss_cons (ps_set (i := 11) sc_law_lot_of.nd rfl (by first | exact Or.inl rfl | exact Or.inr rfl) (pe_callSD G_law_word_of (hr.mono (by decide)) rfl T.g__law_word_of D_law_word_of.kp b_law_word_of_4 .nil (fun σ => passAt (takes_of rfl rfl rfl rfl) σ) (pa_cons (pv 0) (pa_cons (pv 1) (pa_cons pe_int (pa_cons pe_int pa_nil)))))) (pss_one (ps_ret (pe_tup (pa_cons (pe_op op_addA (pe_callB c_len rfl T.f_len (by decide +kernel) (pa_cons (pv 11) pa_nil)) pe_int) (pa_cons (pe_lst (pa_cons (pe_callB c_len rfl T.f_len (by decide +kernel) (pa_cons (pv 11) pa_nil)) pa_nil)) (pa_cons (pe_lc (own := [("_law_k", 15)]) rfl sc_law_lot_of.nd (pi_range1 rfl T.f_range (pa_cons (pe_callB c_len rfl T.f_len (by decide +kernel) (pa_cons (pv 11) pa_nil)) pa_nil)) (blkOk_by (own := [("_law_k", 15)]) (N := N_law_lot_of) (sc := defScope s_law_lot_of) (by decide +kernel)) (fun _ _ _ _ _ => (pg_name (i := 15) sc_law_lot_of.nd rfl (by first | exact Or.inl rfl | exact Or.inr rfl))) (fun _ _ _ _ _ => pts_nil) (fun _ _ _ _ _ => (pe_tup (pa_cons (pv 15) (pa_cons (pe_ix ix_seq (pv 11) (pv 15) (fun _ _ => rfl)) (pa_cons (pe_op op_addA (pv 15) pe_int) pa_nil)))))) pa_nil))))))) pss_nil) (pss_cons (ps_set (i := 3) sc_law_lot_of.nd rfl (by first | exact Or.inl rfl | exact Or.inr rfl) (pe_op op_addA pe_int (pe_callSD G_law_pick (hr.mono (by decide)) rfl T.g__law_pick D_law_pick.kp b_law_pick_2 .nil (fun σ => passAt (takes_of rfl rfl rfl rfl) σ) (pa_cons (pv 0) (pa_cons pe_int pa_nil))))) (pss_cons (ps_set (i := 4) sc_law_lot_of.nd rfl (by first | exact Or.inl rfl | exact Or.inr rfl) (pe_lst pa_nil)) (pss_cons (ps_for (passes_of rfl) rfl (pi_range1 rfl T.f_range (pa_cons (pv 3) pa_nil)) (pg_name (i := 5) sc_law_lot_of.nd rfl (by first | exact Or.inl rfl | exact Or.inr rfl)) (pss_one (ps_for (passes_of rfl) rfl (pi_list (pe_callB (cr_sortedD hr.units) rfl T.f_sorted (by decide +kernel) (pa_cons (pe_callTy (cr_listStr rfl) rfl T.f_list (by decide +kernel) (pa_cons (pv 1) pa_nil)) pa_nil))) (pg_name (i := 12) sc_law_lot_of.nd rfl (by first | exact Or.inl rfl | exact Or.inr rfl)) (pss_cons (ps_set (i := 13) sc_law_lot_of.nd rfl (by first | exact Or.inl rfl | exact Or.inr rfl) (pe_callSD G_law_pick (hr.mono (by decide)) rfl T.g__law_pick D_law_pick.kp b_law_pick_2 .nil (fun σ => passAt (takes_of rfl rfl rfl rfl) σ) (pa_cons (pv 0) (pa_cons (pe_op op_addA (pv 3) pe_int) pa_nil)))) (pss_one (ps_if (pt_cmpR op_ltA (pv 13) (pv 3) (nomark _)) (pss_one (ps_expr (pe_bm PySem.F.plainAttrs_list PySem.F.slot_list_append PySem.F.type_list_append mt_append (pv 4) (pa_cons (pe_tup (pa_cons (pv 5) (pa_cons (pv 12) (pa_cons (pv 13) pa_nil)))) pa_nil)))) pss_nil)))))) (pss_cons (by first | (refine ps_setLc (i := 6) (own := [("_law_state", 5)]) rfl sc_law_lot_of.nd rfl rfl ?e ?f ?g ?h ?i ?j; (case e => exact sw_true rfl rfl rfl (by decide +kernel)); (case f => exact (pi_range1 rfl T.f_range (pa_cons (pv 3) pa_nil))); (case g => exact (blkOk_by (own := [("_law_state", 5)]) (N := N_law_lot_of) (sc := defScope s_law_lot_of) (by decide +kernel))); (case h => exact (fun _ _ _ _ _ => (pg_name (i := 5) sc_law_lot_of.nd rfl (by first | exact Or.inl rfl | exact Or.inr rfl)))); (case i => exact (fun _ _ _ _ _ => (pts_one (pt_cmpR (op_eqA hr) (pe_callSD G_law_pick (hr.mono (by decide)) rfl T.g__law_pick D_law_pick.kp b_law_pick_2 .nil (fun σ => passAt takes0 σ) (pa_cons (pv 0) (pa_cons pe_int pa_nil))) pe_int (nomark _))))); (case j => exact (fun _ _ _ _ _ => (pv 5)))) | exact (ps_set (i := 6) sc_law_lot_of.nd rfl (by first | exact Or.inl rfl | exact Or.inr rfl) (pe_lc (own := [("_law_state", 5)]) rfl sc_law_lot_of.nd (pi_range1 rfl T.f_range (pa_cons (pv 3) pa_nil)) (blkOk_by (own := [("_law_state", 5)]) (N := N_law_lot_of) (sc := defScope s_law_lot_of) (by decide +kernel)) (fun _ _ _ _ _ => (pg_name (i := 5) sc_law_lot_of.nd rfl (by first | exact Or.inl rfl | exact Or.inr rfl))) (fun _ _ _ _ _ => (pts_one (pt_cmpR (op_eqA hr) (pe_callSD G_law_pick (hr.mono (by decide)) rfl T.g__law_pick D_law_pick.kp b_law_pick_2 .nil (fun σ => passAt takes0 σ) (pa_cons (pv 0) (pa_cons pe_int pa_nil))) pe_int (nomark _)))) (fun _ _ _ _ _ => (pv 5))))) (pss_cons (ps_set (i := 7) sc_law_lot_of.nd rfl (by first | exact Or.inl rfl | exact Or.inr rfl) (pe_callSD G_law_led_from (hr.mono (by decide)) rfl T.g__law_led_from D_law_led_from.kp b_law_led_from_2 .nil (fun σ => passAt (takes_of rfl rfl rfl rfl) σ) (pa_cons (pe_lst (pa_cons pe_int pa_nil)) (pa_cons (pe_lc (own := [("_law_move", 14)]) rfl sc_law_lot_of.nd (pi_list (pv 4)) (blkOk_by (own := [("_law_move", 14)]) (N := N_law_lot_of) (sc := defScope s_law_lot_of) (by decide +kernel)) (fun _ _ _ _ _ => (pg_name (i := 14) sc_law_lot_of.nd rfl (by first | exact Or.inl rfl | exact Or.inr rfl))) (fun _ _ _ _ _ => pts_nil) (fun _ _ _ _ _ => (pe_tup (pa_cons (pe_ix ix_seq (pv 14) pe_int (fun _ _ => rfl)) (pa_cons (pe_ix ix_seq (pv 14) pe_int (fun _ _ => rfl)) pa_nil))))) pa_nil)))) (pss_cons (ps_if (pt_cmpR (op_eqA hr) (pe_lc (own := [("_law_state", 5)]) rfl sc_law_lot_of.nd (pi_list (pv 6)) (blkOk_by (own := [("_law_state", 5)]) (N := N_law_lot_of) (sc := defScope s_law_lot_of) (by decide +kernel)) (fun _ _ _ _ _ => (pg_name (i := 5) sc_law_lot_of.nd rfl (by first | exact Or.inl rfl | exact Or.inr rfl))) (fun _ _ _ _ _ => (pts_one (pt_cmpR op_inA (pv 5) (pv 7) (by rfl)))) (fun _ _ _ _ _ => (pv 5))) (pe_lst pa_nil) (nomark _)) (pss_one (ps_set (i := 6) sc_law_lot_of.nd rfl (by first | exact Or.inl rfl | exact Or.inr rfl) (pe_lst (pa_cons pe_int pa_nil)))) pss_nil) (pss_cons (ps_set (i := 8) sc_law_lot_of.nd rfl (by first | exact Or.inl rfl | exact Or.inr rfl) (pe_callSD G_law_led_from (hr.mono (by decide)) rfl T.g__law_led_from D_law_led_from.kp b_law_led_from_2 .nil (fun σ => passAt (takes_of rfl rfl rfl rfl) σ) (pa_cons (pv 6) (pa_cons (pe_lc (own := [("_law_move", 14)]) rfl sc_law_lot_of.nd (pi_list (pv 4)) (blkOk_by (own := [("_law_move", 14)]) (N := N_law_lot_of) (sc := defScope s_law_lot_of) (by decide +kernel)) (fun _ _ _ _ _ => (pg_name (i := 14) sc_law_lot_of.nd rfl (by first | exact Or.inl rfl | exact Or.inr rfl))) (fun _ _ _ _ _ => pts_nil) (fun _ _ _ _ _ => (pe_tup (pa_cons (pe_ix ix_seq (pv 14) pe_int (fun _ _ => rfl)) (pa_cons (pe_ix ix_seq (pv 14) pe_int (fun _ _ => rfl)) pa_nil))))) pa_nil)))) (pss_cons (by first | (refine ps_setLc (i := 9) (own := [("_law_state", 5)]) rfl sc_law_lot_of.nd rfl rfl ?e ?f ?g ?h ?i ?j; (case e => exact sw_true rfl rfl rfl (by decide +kernel)); (case f => exact (pi_range1 rfl T.f_range (pa_cons (pv 3) pa_nil))); (case g => exact (blkOk_by (own := [("_law_state", 5)]) (N := N_law_lot_of) (sc := defScope s_law_lot_of) (by decide +kernel))); (case h => exact (fun _ _ _ _ _ => (pg_name (i := 5) sc_law_lot_of.nd rfl (by first | exact Or.inl rfl | exact Or.inr rfl)))); (case i => exact (fun _ _ _ _ _ => (pts_one (PW.pt (pw_and (pt_cmpR op_inA (pv 5) (pv 7) (by rfl)) (pw_and1 (pt_cmpR op_inA (pv 5) (pv 8) (by rfl)))))))); (case j => exact (fun _ _ _ _ _ => (pv 5)))) | exact (ps_set (i := 9) sc_law_lot_of.nd rfl (by first | exact Or.inl rfl | exact Or.inr rfl) (pe_lc (own := [("_law_state", 5)]) rfl sc_law_lot_of.nd (pi_range1 rfl T.f_range (pa_cons (pv 3) pa_nil)) (blkOk_by (own := [("_law_state", 5)]) (N := N_law_lot_of) (sc := defScope s_law_lot_of) (by decide +kernel)) (fun _ _ _ _ _ => (pg_name (i := 5) sc_law_lot_of.nd rfl (by first | exact Or.inl rfl | exact Or.inr rfl))) (fun _ _ _ _ _ => (pts_one (PW.pt (pw_and (pt_cmpR op_inA (pv 5) (pv 7) (by rfl)) (pw_and1 (pt_cmpR op_inA (pv 5) (pv 8) (by rfl))))))) (fun _ _ _ _ _ => (pv 5))))) (pss_cons (by first | (refine ps_setLc (i := 10) (own := [("_law_move", 14)]) rfl sc_law_lot_of.nd rfl rfl ?e ?f ?g ?h ?i ?j; (case e => exact sw_true rfl rfl rfl (by decide +kernel)); (case f => exact (pi_list (pv 4))); (case g => exact (blkOk_by (own := [("_law_move", 14)]) (N := N_law_lot_of) (sc := defScope s_law_lot_of) (by decide +kernel))); (case h => exact (fun _ _ _ _ _ => (pg_name (i := 14) sc_law_lot_of.nd rfl (by first | exact Or.inl rfl | exact Or.inr rfl)))); (case i => exact (fun _ _ _ _ _ => (pts_one (PW.pt (pw_and (pt_cmpR op_inA (pe_ix ix_seq (pv 14) pe_int (fun _ _ => rfl)) (pv 9) (by rfl)) (pw_and1 (pt_cmpR op_inA (pe_ix ix_seq (pv 14) pe_int (fun _ _ => rfl)) (pv 9) (by rfl)))))))); (case j => exact (fun _ _ _ _ _ => (pv 14)))) | exact (ps_set (i := 10) sc_law_lot_of.nd rfl (by first | exact Or.inl rfl | exact Or.inr rfl) (pe_lc (own := [("_law_move", 14)]) rfl sc_law_lot_of.nd (pi_list (pv 4)) (blkOk_by (own := [("_law_move", 14)]) (N := N_law_lot_of) (sc := defScope s_law_lot_of) (by decide +kernel)) (fun _ _ _ _ _ => (pg_name (i := 14) sc_law_lot_of.nd rfl (by first | exact Or.inl rfl | exact Or.inr rfl))) (fun _ _ _ _ _ => (pts_one (PW.pt (pw_and (pt_cmpR op_inA (pe_ix ix_seq (pv 14) pe_int (fun _ _ => rfl)) (pv 9) (by rfl)) (pw_and1 (pt_cmpR op_inA (pe_ix ix_seq (pv 14) pe_int (fun _ _ => rfl)) (pv 9) (by rfl))))))) (fun _ _ _ _ _ => (pv 14))))) (pss_cons (by first | (refine ps_setLc (i := 4) (own := [("_law_move", 14)]) rfl sc_law_lot_of.nd rfl rfl ?e ?f ?g ?h ?i ?j; (case e => exact sw_true rfl rfl rfl (by decide +kernel)); (case f => exact (pi_list (pv 10))); (case g => exact (blkOk_by (own := [("_law_move", 14)]) (N := N_law_lot_of) (sc := defScope s_law_lot_of) (by decide +kernel))); (case h => exact (fun _ _ _ _ _ => (pg_name (i := 14) sc_law_lot_of.nd rfl (by first | exact Or.inl rfl | exact Or.inr rfl)))); (case i => exact (fun _ _ _ _ _ => pts_nil)); (case j => exact (fun _ _ _ _ _ => (pe_tup (pa_cons (pe_bm PySem.F.plainAttrs_list PySem.F.slot_list_index PySem.F.type_list_index mt_index (pv 9) (pa_cons (pe_ix ix_seq (pv 14) pe_int (fun _ _ => rfl)) pa_nil)) (pa_cons (pe_ix ix_seq (pv 14) pe_int (fun _ _ => rfl)) (pa_cons (pe_bm PySem.F.plainAttrs_list PySem.F.slot_list_index PySem.F.type_list_index mt_index (pv 9) (pa_cons (pe_ix ix_seq (pv 14) pe_int (fun _ _ => rfl)) pa_nil)) pa_nil))))))) | exact (ps_set (i := 4) sc_law_lot_of.nd rfl (by first | exact Or.inl rfl | exact Or.inr rfl) (pe_lc (own := [("_law_move", 14)]) rfl sc_law_lot_of.nd (pi_list (pv 10)) (blkOk_by (own := [("_law_move", 14)]) (N := N_law_lot_of) (sc := defScope s_law_lot_of) (by decide +kernel)) (fun _ _ _ _ _ => (pg_name (i := 14) sc_law_lot_of.nd rfl (by first | exact Or.inl rfl | exact Or.inr rfl))) (fun _ _ _ _ _ => pts_nil) (fun _ _ _ _ _ => (pe_tup (pa_cons (pe_bm PySem.F.plainAttrs_list PySem.F.slot_list_index PySem.F.type_list_index mt_index (pv 9) (pa_cons (pe_ix ix_seq (pv 14) pe_int (fun _ _ => rfl)) pa_nil)) (pa_cons (pe_ix ix_seq (pv 14) pe_int (fun _ _ => rfl)) (pa_cons (pe_bm PySem.F.plainAttrs_list PySem.F.slot_list_index PySem.F.type_list_index mt_index (pv 9) (pa_cons (pe_ix ix_seq (pv 14) pe_int (fun _ _ => rfl)) pa_nil)) pa_nil)))))))) (pss_one (ps_ret (pe_tup (pa_cons (pe_callB c_len rfl T.f_len (by decide +kernel) (pa_cons (pv 9) pa_nil)) (pa_cons (pe_lc (own := [("_law_state", 5)]) rfl sc_law_lot_of.nd (pi_list (pv 6)) (blkOk_by (own := [("_law_state", 5)]) (N := N_law_lot_of) (sc := defScope s_law_lot_of) (by decide +kernel)) (fun _ _ _ _ _ => (pg_name (i := 5) sc_law_lot_of.nd rfl (by first | exact Or.inl rfl | exact Or.inr rfl))) (fun _ _ _ _ _ => (pts_one (pt_cmpR op_inA (pv 5) (pv 9) (by rfl)))) (fun _ _ _ _ _ => (pe_bm PySem.F.plainAttrs_list PySem.F.slot_list_index PySem.F.type_list_index mt_index (pv 9) (pa_cons (pv 5) pa_nil)))) (pa_cons (pv 4) pa_nil)))))))))))))))))))
/-! _law_raw -/
abbrev N_law_raw : List Str := ["_law_draws", "_law_signs", "_law_many", "_law_moves", "_law_k", "_law_state", "_law_sign", "_law_move"]
def t_law_raw (K : Frg) (E : XK) : TS :=
  (tSeq (tAsg (tOp rAddA (tC (.int 1)) (tCallSD (sp_law_pick K) [] (WE (W0 E)) (tCons (tVar 0) (tCons (tC (.int 5)) tNil)))) (gName 2)) (tSeq (tAsg (tLst tNil) (gName 3)) (tSeq (tFor (iRng1 (tCons (tCallSD (sp_law_pick K) [] (WE (W0 E)) (tCons (tVar 0) (tCons (tC (.int 9)) tNil))) tNil)) (gName 4) (tSeq (tAsg (tCallSD (sp_law_pick K) [] (WE (W0 E)) (tCons (tVar 0) (tCons (tVar 2) tNil))) (gName 5)) (tSeq (tAsg (tOp (rIx K) (tVar 1) (tCallSD (sp_law_pick K) [] (WE (W0 E)) (tCons (tVar 0) (tCons (tC (.int 3)) tNil)))) (gName 6)) (tIfS (tTest (tOp (rEqA K) (tLc (iList K (tVar 3)) (gName 7) (tAnd (tTest (tOp (rEqA K) (tOp (rIx K) (tVar 7) (tC (.int 0))) (tVar 5))) (tTest (tOp (rEqA K) (tOp (rIx K) (tVar 7) (tC (.int 1))) (tVar 6)))) (tVar 7) [7]) (tLst tNil))) (tDrop (tBM K "list" rAppend (tVar 3) (tCons (tTup (tCons (tVar 5) (tCons (tVar 6) (tCons (tCallSD (sp_law_pick K) [] (WE (W0 E)) (tCons (tVar 0) (tCons (tVar 2) tNil))) tNil)))) tNil))) tNext)))) (tRet (tTup (tCons (tVar 2) (tCons (tLc (iRng1 (tCons (tVar 2) tNil)) (gName 5) (tTest (tOp (rEqA K) (tCallSD (sp_law_pick K) [] (WE WN) (tCons (tVar 0) (tCons (tC (.int 2)) tNil))) (tC (.int 1)))) (tVar 5) [5]) (tCons (tVar 3) tNil))))))))
def sp_law_raw (K : Frg) : Sp := fun vs H Q E => vs.length = 2 ∧ t_law_raw K E { nx := fun _ H' => Q .non H', rt := Q } (start N_law_raw vs) H
theorem sc_law_raw : FnScope N_law_raw ["_law_draws", "_law_signs"] (defScope s_law_raw) := ⟨rfl, rfl, rfl, by decide +kernel, rfl, by decide +kernel, by decide +kernel⟩
theorem ok_law_raw (T : Txt PROG K mg) : ∃ fd, FnOk PROG w K mg base (L2.CX PROG w) 2 (Rz.pG "_law_raw" K) fd ["_law_draws", "_law_signs"] (sp_law_raw K) ∧ FunD K "_law_raw" "_law_raw" (defArgs s_law_raw) (defBody s_law_raw) (defScope s_law_raw) [] [] (Rz.pG "_law_raw" K) fd := by
  obtain ⟨fd_law_pick, G_law_pick, D_law_pick⟩ := ok_law_pick (w := w) (base := base) T
  have b_law_pick_2 : Binds K fd_law_pick _ [] := D_law_pick.bindsN (ps := ["_law_draws", "_law_many"]) (fun _ _ _ _ _ _ us hl => match us, hl with | [_, _], _ => rfl)
  obtain ⟨fd, F⟩ := T.F_law_raw
  refine ⟨fd, F.ok sc_law_raw (fun vs H Q E h => h.1) (fun cdv A outer s H vs Q E hr h => ⟨t_law_raw K E, ?_, h.2⟩), F⟩
  exact (pss_cons (ps_set (i := 2) sc_law_raw.nd rfl (by first | exact Or.inl rfl | exact Or.inr rfl) (pe_op op_addA pe_int (pe_callSD G_law_pick (hr.mono (by decide)) rfl T.g__law_pick D_law_pick.kp b_law_pick_2 .nil (fun σ => passAt (takes_of rfl rfl rfl rfl) σ) (pa_cons (pv 0) (pa_cons pe_int pa_nil))))) (pss_cons (ps_set (i := 3) sc_law_raw.nd rfl (by first | exact Or.inl rfl | exact Or.inr rfl) (pe_lst pa_nil)) (pss_cons (ps_for (passes_of rfl) rfl (pi_range1 rfl T.f_range (pa_cons (pe_callSD G_law_pick (hr.mono (by decide)) rfl T.g__law_pick D_law_pick.kp b_law_pick_2 .nil (fun σ => passAt (takes_of rfl rfl rfl rfl) σ) (pa_cons (pv 0) (pa_cons pe_int pa_nil))) pa_nil)) (pg_name (i := 4) sc_law_raw.nd rfl (by first | exact Or.inl rfl | exact Or.inr rfl)) (pss_cons (ps_set (i := 5) sc_law_raw.nd rfl (by first | exact Or.inl rfl | exact Or.inr rfl) (pe_callSD G_law_pick (hr.mono (by decide)) rfl T.g__law_pick D_law_pick.kp b_law_pick_2 .nil (fun σ => passAt (takes_of rfl rfl rfl rfl) σ) (pa_cons (pv 0) (pa_cons (pv 2) pa_nil)))) (pss_cons (ps_set (i := 6) sc_law_raw.nd rfl (by first | exact Or.inl rfl | exact Or.inr rfl) (pe_ix ix_seq (pv 1) (pe_callSD G_law_pick (hr.mono (by decide)) rfl T.g__law_pick D_law_pick.kp b_law_pick_2 .nil (fun σ => passAt (takes_of rfl rfl rfl rfl) σ) (pa_cons (pv 0) (pa_cons pe_int pa_nil))) (fun _ _ => rfl))) (pss_one (ps_if (pt_cmpR (op_eqA hr) (pe_lc (own := [("_law_move", 7)]) rfl sc_law_raw.nd (pi_list (pv 3)) (blkOk_by (own := [("_law_move", 7)]) (N := N_law_raw) (sc := defScope s_law_raw) (by decide +kernel)) (fun _ _ _ _ _ => (pg_name (i := 7) sc_law_raw.nd rfl (by first | exact Or.inl rfl | exact Or.inr rfl))) (fun _ _ _ _ _ => (pts_one (PW.pt (pw_and (pt_cmpR (op_eqA hr) (pe_ix ix_seq (pv 7) pe_int (fun _ _ => rfl)) (pv 5) (nomark _)) (pw_and1 (pt_cmpR (op_eqA hr) (pe_ix ix_seq (pv 7) pe_int (fun _ _ => rfl)) (pv 6) (nomark _))))))) (fun _ _ _ _ _ => (pv 7))) (pe_lst pa_nil) (nomark _)) (pss_one (ps_expr (pe_bm PySem.F.plainAttrs_list PySem.F.slot_list_append PySem.F.type_list_append mt_append (pv 3) (pa_cons (pe_tup (pa_cons (pv 5) (pa_cons (pv 6) (pa_cons (pe_callSD G_law_pick (hr.mono (by decide)) rfl T.g__law_pick D_law_pick.kp b_law_pick_2 .nil (fun σ => passAt (takes_of rfl rfl rfl rfl) σ) (pa_cons (pv 0) (pa_cons (pv 2) pa_nil))) pa_nil)))) pa_nil)))) pss_nil))))) (pss_one (ps_ret (pe_tup (pa_cons (pv 2) (pa_cons (pe_lc (own := [("_law_state", 5)]) rfl sc_law_raw.nd (pi_range1 rfl T.f_range (pa_cons (pv 2) pa_nil)) (blkOk_by (own := [("_law_state", 5)]) (N := N_law_raw) (sc := defScope s_law_raw) (by decide +kernel)) (fun _ _ _ _ _ => (pg_name (i := 5) sc_law_raw.nd rfl (by first | exact Or.inl rfl | exact Or.inr rfl))) (fun _ _ _ _ _ => (pts_one (pt_cmpR (op_eqA hr) (pe_callSD G_law_pick (hr.mono (by decide)) rfl T.g__law_pick D_law_pick.kp b_law_pick_2 .nil (fun σ => passAt takes0 σ) (pa_cons (pv 0) (pa_cons pe_int pa_nil))) pe_int (nomark _)))) (fun _ _ _ _ _ => (pv 5))) (pa_cons (pv 3) pa_nil)))))))))
/-! _law_odd_sign -/
abbrev N_law_odd_sign : List Str := ["_law_draws", "_law_odd"]
def t_law_odd_sign (K : Frg) (E : XK) : TS :=
  (tSeq (tAsg (tC (.str " !\"#$&'()*+,-./0123456789:;<=>?@ABCDEFGHIJKLMNOPQRSTUVWXYZ[\\]^_`{|}~\n\t")) (gName 1)) (tRet (tOp (rIx K) (tVar 1) (tCallSD (sp_law_pick K) [] (WE (W0 E)) (tCons (tVar 0) (tCons (tCB (rLenA K) (tCons (tVar 1) tNil)) tNil))))))
def sp_law_odd_sign (K : Frg) : Sp := fun vs H Q E => vs.length = 1 ∧ t_law_odd_sign K E { nx := fun _ H' => Q .non H', rt := Q } (start N_law_odd_sign vs) H
theorem sc_law_odd_sign : FnScope N_law_odd_sign ["_law_draws"] (defScope s_law_odd_sign) := ⟨rfl, rfl, rfl, by decide +kernel, rfl, by decide +kernel, by decide +kernel⟩
theorem ok_law_odd_sign (T : Txt PROG K mg) : ∃ fd, FnOk PROG w K mg base (L2.CX PROG w) 2 (Rz.pG "_law_odd_sign" K) fd ["_law_draws"] (sp_law_odd_sign K) ∧ FunD K "_law_odd_sign" "_law_odd_sign" (defArgs s_law_odd_sign) (defBody s_law_odd_sign) (defScope s_law_odd_sign) [] [] (Rz.pG "_law_odd_sign" K) fd := by
  obtain ⟨fd_law_pick, G_law_pick, D_law_pick⟩ := ok_law_pick (w := w) (base := base) T
  have b_law_pick_2 : Binds K fd_law_pick _ [] := D_law_pick.bindsN (ps := ["_law_draws", "_law_many"]) (fun _ _ _ _ _ _ us hl => match us, hl with | [_, _], _ => rfl)
  obtain ⟨fd, F⟩ := T.F_law_odd_sign
  refine ⟨fd, F.ok sc_law_odd_sign (fun vs H Q E h => h.1) (fun cdv A outer s H vs Q E hr h => ⟨t_law_odd_sign K E, ?_, h.2⟩), F⟩
  exact (pss_cons (ps_set (i := 1) sc_law_odd_sign.nd rfl (by first | exact Or.inl rfl | exact Or.inr rfl) pe_str) (pss_one (ps_ret (pe_ix ix_seq (pv 1) (pe_callSD G_law_pick (hr.mono (by decide)) rfl T.g__law_pick D_law_pick.kp b_law_pick_2 .nil (fun σ => passAt (takes_of rfl rfl rfl rfl) σ) (pa_cons (pv 0) (pa_cons (pe_callB c_len rfl T.f_len (by decide +kernel) (pa_cons (pv 1) pa_nil)) pa_nil))) (fun _ _ => rfl)))))
/-! _law_spoilt -/
abbrev N_law_spoilt : List Str := ["_law_draws", "_law_parts", "_law_signs", "_law_many", "_law_last", "_law_moves", "_law_far", "_law_out", "_law_kind", "_law_at", "_law_sign", "_law_move"]
def t_law_spoilt (K : Frg) (E : XK) : TS :=
  (tSeq (tAsg (tOp (rIx K) (tVar 1) (tC (.int 0))) (gName 3)) (tSeq (tAsg (tCB (rListA K) (tCons (tOp (rIx K) (tVar 1) (tC (.int 1))) tNil)) (gName 4)) (tSeq (tAsg (tCB (rListA K) (tCons (tOp (rIx K) (tVar 1) (tC (.int 2))) tNil)) (gName 5)) (tSeq (tAsg (tCallSD (sp_law_pick K) [] (WE (W0 E)) (tCons (tVar 0) (tCons (tC (.int 50)) tNil))) (gName 6)) (tSeq (tAsg (tOp (rIx K) (tLst (tCons (tOp rSubA (tUn rNegA (tC (.int 1))) (tVar 6)) (tCons (tOp rAddA (tVar 3) (tVar 6)) tNil))) (tCallSD (sp_law_pick K) [] (WE (W0 E)) (tCons (tVar 0) (tCons (tC (.int 2)) tNil)))) (gName 7)) (tSeq (tAsg (tCallSD (sp_law_pick K) [] (WE (W0 E)) (tCons (tVar 0) (tCons (tC (.int 6)) tNil))) (gName 8)) (tSeq (tAsg (tCallSD (sp_law_pick K) [] (WE (W0 E)) (tCons (tVar 0) (tCons (tOp rAddA (tCB (rLenA K) (tCons (tVar 5) tNil)) (tC (.int 1))) tNil))) (gName 9)) (tSeq (tIfS (tTest (tOp (rEqA K) (tVar 8) (tC (.int 0)))) (tRet (tTup (tCons (tOp (rIx K) (tLst (tCons (tC (.int 0)) (tCons (tOp rSubA (tC (.int 0)) (tVar 6)) (tCons (tC (.int 41)) (tCons (tOp rAddA (tC (.int 41)) (tVar 6)) tNil))))) (tCallSD (sp_law_pick K) [] (WE (W0 E)) (tCons (tVar 0) (tCons (tC (.int 4)) tNil)))) (tCons (tVar 4) (tCons (tVar 5) tNil))))) tNext) (tSeq (tIfS (tTest (tOp (rEqA K) (tVar 8) (tC (.int 1)))) (tDrop (tBM K "list" rInsertA (tVar 4) (tCons (tCallSD (sp_law_pick K) [] (WE (W0 E)) (tCons (tVar 0) (tCons (tOp rAddA (tCB (rLenA K) (tCons (tVar 4) tNil)) (tC (.int 1))) tNil))) (tCons (tVar 7) tNil)))) tNext) (tSeq (tIfS (tTest (tOp (rEqA K) (tVar 8) (tC (.int 2)))) (tDrop (tBM K "list" rInsertA (tVar 5) (tCons (tVar 9) (tCons (tTup (tCons (tVar 7) (tCons (tOp (rIx K) (tVar 2) (tCallSD (sp_law_pick K) [] (WE (W0 E)) (tCons (tVar 0) (tCons (tC (.int 3)) tNil)))) (tCons (tC (.int 0)) tNil)))) tNil)))) tNext) (tSeq (tIfS (tTest (tOp (rEqA K) (tVar 8) (tC (.int 3)))) (tDrop (tBM K "list" rInsertA (tVar 5) (tCons (tVar 9) (tCons (tTup (tCons (tC (.int 0)) (tCons (tOp (rIx K) (tVar 2) (tCallSD (sp_law_pick K) [] (WE (W0 E)) (tCons (tVar 0) (tCons (tC (.int 3)) tNil)))) (tCons (tVar 7) tNil)))) tNil)))) tNext) (tSeq (tIfS (tTest (tOp (rEqA K) (tVar 8) (tC (.int 4)))) (tSeq (tAsg (tOp (rIx K) (tLst (tCons (tC (.str "")) (tCons (tOp rAddA (tOp (rIx K) (tVar 2) (tC (.int 0))) (tOp (rIx K) (tVar 2) (tC (.int 1)))) (tCons (tCallSD (sp_law_odd_sign K) [] (WE (W0 E)) (tCons (tVar 0) tNil)) (tCons (tOp rAddA (tOp (rIx K) (tVar 2) (tC (.int 2))) (tCallSD (sp_law_odd_sign K) [] (WE (W0 E)) (tCons (tVar 0) tNil))) tNil))))) (tCallSD (sp_law_pick K) [] (WE (W0 E)) (tCons (tVar 0) (tCons (tC (.int 4)) tNil)))) (gName 10)) (tDrop (tBM K "list" rInsertA (tVar 5) (tCons (tVar 9) (tCons (tTup (tCons (tC (.int 0)) (tCons (tVar 10) (tCons (tC (.int 0)) tNil)))) tNil))))) tNext) (tSeq (tIfS (tAnd (tTest (tOp (rEqA K) (tVar 8) (tC (.int 5)))) (tTest (tOp (rNeA K) (tVar 5) (tLst tNil)))) (tSeq (tAsg (tOp (rIx K) (tVar 5) (tCallSD (sp_law_pick K) [] (WE (W0 E)) (tCons (tVar 0) (tCons (tCB (rLenA K) (tCons (tVar 5) tNil)) tNil)))) (gName 11)) (tDrop (tBM K "list" rInsertA (tVar 5) (tCons (tVar 9) (tCons (tTup (tCons (tOp (rIx K) (tVar 11) (tC (.int 0))) (tCons (tOp (rIx K) (tVar 11) (tC (.int 1))) (tCons (tOp rModA (tCB (rIntA) (tCons (tOp rAddA (tOp (rIx K) (tVar 11) (tC (.int 2))) (tC (.int 1))) tNil)) (tVar 3)) tNil)))) tNil))))) tNext) (tRet (tTup (tCons (tVar 3) (tCons (tVar 4) (tCons (tVar 5) tNil))))))))))))))))))
def sp_law_spoilt (K : Frg) : Sp := fun vs H Q E => vs.length = 3 ∧ t_law_spoilt K E { nx := fun _ H' => Q .non H', rt := Q } (start N_law_spoilt vs) H
theorem sc_law_spoilt : FnScope N_law_spoilt ["_law_draws", "_law_parts", "_law_signs"] (defScope s_law_spoilt) := ⟨rfl, rfl, rfl, by decide +kernel, rfl, by decide +kernel, by decide +kernel⟩
theorem ok_law_spoilt (T : Txt PROG K mg) : ∃ fd, FnOk PROG w K mg base (L2.CX PROG w) 3 (Rz.pG "_law_spoilt" K) fd ["_law_draws", "_law_parts", "_law_signs"] (sp_law_spoilt K) ∧ FunD K "_law_spoilt" "_law_spoilt" (defArgs s_law_spoilt) (defBody s_law_spoilt) (defScope s_law_spoilt) [] [] (Rz.pG "_law_spoilt" K) fd := by
  obtain ⟨fd_law_pick, G_law_pick, D_law_pick⟩ := ok_law_pick (w := w) (base := base) T
  obtain ⟨fd_law_odd_sign, G_law_odd_sign, D_law_odd_sign⟩ := ok_law_odd_sign (w := w) (base := base) T
  have b_law_pick_2 : Binds K fd_law_pick _ [] := D_law_pick.bindsN (ps := ["_law_draws", "_law_many"]) (fun _ _ _ _ _ _ us hl => match us, hl with | [_, _], _ => rfl)
  have b_law_odd_sign_1 : Binds K fd_law_odd_sign _ [] := D_law_odd_sign.bindsN (ps := ["_law_draws"]) (fun _ _ _ _ _ _ us hl => match us, hl with | [_], _ => rfl)
  obtain ⟨fd, F⟩ := T.F_law_spoilt
  refine ⟨fd, F.ok sc_law_spoilt (fun vs H Q E h => h.1) (fun cdv A outer s H vs Q E hr h => ⟨t_law_spoilt K E, ?_, h.2⟩), F⟩
  exact (pss_cons (ps_set (i := 3) sc_law_spoilt.nd rfl (by first | exact Or.inl rfl | exact Or.inr rfl) (pe_ix ix_seq (pv 1) pe_int (fun _ _ => rfl))) (pss_cons (ps_set (i := 4) sc_law_spoilt.nd rfl (by first | exact Or.inl rfl | exact Or.inr rfl) (pe_callTy c_list rfl T.f_list (by decide +kernel) (pa_cons (pe_ix ix_seq (pv 1) pe_int (fun _ _ => rfl)) pa_nil))) (pss_cons (ps_set (i := 5) sc_law_spoilt.nd rfl (by first | exact Or.inl rfl | exact Or.inr rfl) (pe_callTy c_list rfl T.f_list (by decide +kernel) (pa_cons (pe_ix ix_seq (pv 1) pe_int (fun _ _ => rfl)) pa_nil))) (pss_cons (ps_set (i := 6) sc_law_spoilt.nd rfl (by first | exact Or.inl rfl | exact Or.inr rfl) (pe_callSD G_law_pick (hr.mono (by decide)) rfl T.g__law_pick D_law_pick.kp b_law_pick_2 .nil (fun σ => passAt (takes_of rfl rfl rfl rfl) σ) (pa_cons (pv 0) (pa_cons pe_int pa_nil)))) (pss_cons (ps_set (i := 7) sc_law_spoilt.nd rfl (by first | exact Or.inl rfl | exact Or.inr rfl) (pe_ix ix_seq (pe_lst (pa_cons (pe_op op_subA (pe_un un_neg pe_int) (pv 6)) (pa_cons (pe_op op_addA (pv 3) (pv 6)) pa_nil))) (pe_callSD G_law_pick (hr.mono (by decide)) rfl T.g__law_pick D_law_pick.kp b_law_pick_2 .nil (fun σ => passAt (takes_of rfl rfl rfl rfl) σ) (pa_cons (pv 0) (pa_cons pe_int pa_nil))) (fun _ _ => rfl))) (pss_cons (ps_set (i := 8) sc_law_spoilt.nd rfl (by first | exact Or.inl rfl | exact Or.inr rfl) (pe_callSD G_law_pick (hr.mono (by decide)) rfl T.g__law_pick D_law_pick.kp b_law_pick_2 .nil (fun σ => passAt (takes_of rfl rfl rfl rfl) σ) (pa_cons (pv 0) (pa_cons pe_int pa_nil)))) (pss_cons (ps_set (i := 9) sc_law_spoilt.nd rfl (by first | exact Or.inl rfl | exact Or.inr rfl) (pe_callSD G_law_pick (hr.mono (by decide)) rfl T.g__law_pick D_law_pick.kp b_law_pick_2 .nil (fun σ => passAt (takes_of rfl rfl rfl rfl) σ) (pa_cons (pv 0) (pa_cons (pe_op op_addA (pe_callB c_len rfl T.f_len (by decide +kernel) (pa_cons (pv 5) pa_nil)) pe_int) pa_nil)))) (pss_cons (ps_if (pt_cmpR (op_eqA hr) (pv 8) pe_int (nomark _)) (pss_one (ps_ret (pe_tup (pa_cons (pe_ix ix_seq (pe_lst (pa_cons pe_int (pa_cons (pe_op op_subA pe_int (pv 6)) (pa_cons pe_int (pa_cons (pe_op op_addA pe_int (pv 6)) pa_nil))))) (pe_callSD G_law_pick (hr.mono (by decide)) rfl T.g__law_pick D_law_pick.kp b_law_pick_2 .nil (fun σ => passAt (takes_of rfl rfl rfl rfl) σ) (pa_cons (pv 0) (pa_cons pe_int pa_nil))) (fun _ _ => rfl)) (pa_cons (pv 4) (pa_cons (pv 5) pa_nil)))))) pss_nil) (pss_cons (ps_if (pt_cmpR (op_eqA hr) (pv 8) pe_int (nomark _)) (pss_one (ps_expr (pe_bm PySem.F.plainAttrs_list PySem.F.slot_list_insert PySem.F.type_list_insert mt_insertA (pv 4) (pa_cons (pe_callSD G_law_pick (hr.mono (by decide)) rfl T.g__law_pick D_law_pick.kp b_law_pick_2 .nil (fun σ => passAt (takes_of rfl rfl rfl rfl) σ) (pa_cons (pv 0) (pa_cons (pe_op op_addA (pe_callB c_len rfl T.f_len (by decide +kernel) (pa_cons (pv 4) pa_nil)) pe_int) pa_nil))) (pa_cons (pv 7) pa_nil))))) pss_nil) (pss_cons (ps_if (pt_cmpR (op_eqA hr) (pv 8) pe_int (nomark _)) (pss_one (ps_expr (pe_bm PySem.F.plainAttrs_list PySem.F.slot_list_insert PySem.F.type_list_insert mt_insertA (pv 5) (pa_cons (pv 9) (pa_cons (pe_tup (pa_cons (pv 7) (pa_cons (pe_ix ix_seq (pv 2) (pe_callSD G_law_pick (hr.mono (by decide)) rfl T.g__law_pick D_law_pick.kp b_law_pick_2 .nil (fun σ => passAt (takes_of rfl rfl rfl rfl) σ) (pa_cons (pv 0) (pa_cons pe_int pa_nil))) (fun _ _ => rfl)) (pa_cons pe_int pa_nil)))) pa_nil))))) pss_nil) (pss_cons (ps_if (pt_cmpR (op_eqA hr) (pv 8) pe_int (nomark _)) (pss_one (ps_expr (pe_bm PySem.F.plainAttrs_list PySem.F.slot_list_insert PySem.F.type_list_insert mt_insertA (pv 5) (pa_cons (pv 9) (pa_cons (pe_tup (pa_cons pe_int (pa_cons (pe_ix ix_seq (pv 2) (pe_callSD G_law_pick (hr.mono (by decide)) rfl T.g__law_pick D_law_pick.kp b_law_pick_2 .nil (fun σ => passAt (takes_of rfl rfl rfl rfl) σ) (pa_cons (pv 0) (pa_cons pe_int pa_nil))) (fun _ _ => rfl)) (pa_cons (pv 7) pa_nil)))) pa_nil))))) pss_nil) (pss_cons (ps_if (pt_cmpR (op_eqA hr) (pv 8) pe_int (nomark _)) (pss_cons (ps_set (i := 10) sc_law_spoilt.nd rfl (by first | exact Or.inl rfl | exact Or.inr rfl) (pe_ix ix_seq (pe_lst (pa_cons pe_str (pa_cons (pe_op op_addA (pe_ix ix_seq (pv 2) pe_int (fun _ _ => rfl)) (pe_ix ix_seq (pv 2) pe_int (fun _ _ => rfl))) (pa_cons (pe_callSD G_law_odd_sign (hr.mono (by decide)) rfl T.g__law_odd_sign D_law_odd_sign.kp b_law_odd_sign_1 .nil (fun σ => passAt (takes_of rfl rfl rfl rfl) σ) (pa_cons (pv 0) pa_nil)) (pa_cons (pe_op op_addA (pe_ix ix_seq (pv 2) pe_int (fun _ _ => rfl)) (pe_callSD G_law_odd_sign (hr.mono (by decide)) rfl T.g__law_odd_sign D_law_odd_sign.kp b_law_odd_sign_1 .nil (fun σ => passAt (takes_of rfl rfl rfl rfl) σ) (pa_cons (pv 0) pa_nil))) pa_nil))))) (pe_callSD G_law_pick (hr.mono (by decide)) rfl T.g__law_pick D_law_pick.kp b_law_pick_2 .nil (fun σ => passAt (takes_of rfl rfl rfl rfl) σ) (pa_cons (pv 0) (pa_cons pe_int pa_nil))) (fun _ _ => rfl))) (pss_one (ps_expr (pe_bm PySem.F.plainAttrs_list PySem.F.slot_list_insert PySem.F.type_list_insert mt_insertA (pv 5) (pa_cons (pv 9) (pa_cons (pe_tup (pa_cons pe_int (pa_cons (pv 10) (pa_cons pe_int pa_nil)))) pa_nil)))))) pss_nil) (pss_cons (ps_if (PW.pt (pw_and (pt_cmpR (op_eqA hr) (pv 8) pe_int (nomark _)) (pw_and1 (pt_cmpR (op_neA hr) (pv 5) (pe_lst pa_nil) (nomark _))))) (pss_cons (ps_set (i := 11) sc_law_spoilt.nd rfl (by first | exact Or.inl rfl | exact Or.inr rfl) (pe_ix ix_seq (pv 5) (pe_callSD G_law_pick (hr.mono (by decide)) rfl T.g__law_pick D_law_pick.kp b_law_pick_2 .nil (fun σ => passAt (takes_of rfl rfl rfl rfl) σ) (pa_cons (pv 0) (pa_cons (pe_callB c_len rfl T.f_len (by decide +kernel) (pa_cons (pv 5) pa_nil)) pa_nil))) (fun _ _ => rfl))) (pss_one (ps_expr (pe_bm PySem.F.plainAttrs_list PySem.F.slot_list_insert PySem.F.type_list_insert mt_insertA (pv 5) (pa_cons (pv 9) (pa_cons (pe_tup (pa_cons (pe_ix ix_seq (pv 11) pe_int (fun _ _ => rfl)) (pa_cons (pe_ix ix_seq (pv 11) pe_int (fun _ _ => rfl)) (pa_cons (pe_op op_modA (pe_callTy c_int rfl T.f_int (by decide +kernel) (pa_cons (pe_op op_addA (pe_ix ix_seq (pv 11) pe_int (fun _ _ => rfl)) pe_int) pa_nil)) (pv 3)) pa_nil)))) pa_nil)))))) pss_nil) (pss_one (ps_ret (pe_tup (pa_cons (pv 3) (pa_cons (pv 4) (pa_cons (pv 5) pa_nil)))))))))))))))))))
/-! _law_first_odd -/
abbrev N_law_first_odd : List Str := ["_law_text", "_law_at"]
def t_law_first_odd (K : Frg) (E : XK) : TS :=
  (tSeq (tFor (iRng1 (tCons (tCB (rLenA K) (tCons (tVar 0) tNil)) tNil)) (gName 1) (tIfS (tTest (tOp (rNotInA K) (tOp (rIx K) (tVar 0) (tVar 1)) (tC (.str "abcdefghijklmnopqrstuvwxyz")))) (tRet (tVar 1)) tNext)) (tRet (tUn rNegA (tC (.int 1)))))
def sp_law_first_odd (K : Frg) : Sp := fun vs H Q E => vs.length = 1 ∧ t_law_first_odd K E { nx := fun _ H' => Q .non H', rt := Q } (start N_law_first_odd vs) H
theorem sc_law_first_odd : FnScope N_law_first_odd ["_law_text"] (defScope s_law_first_odd) := ⟨rfl, rfl, rfl, by decide +kernel, rfl, by decide +kernel, by decide +kernel⟩
theorem ok_law_first_odd (T : Txt PROG K mg) : ∃ fd, FnOk PROG w K mg base (L2.CX PROG w) 1 (Rz.pG "_law_first_odd" K) fd ["_law_text"] (sp_law_first_odd K) ∧ FunD K "_law_first_odd" "_law_first_odd" (defArgs s_law_first_odd) (defBody s_law_first_odd) (defScope s_law_first_odd) [] [] (Rz.pG "_law_first_odd" K) fd := by
  obtain ⟨fd, F⟩ := T.F_law_first_odd
  refine ⟨fd, F.ok sc_law_first_odd (fun vs H Q E h => h.1) (fun cdv A outer s H vs Q E hr h => ⟨t_law_first_odd K E, ?_, h.2⟩), F⟩
  exact (pss_cons (ps_for (passes_of rfl) rfl (pi_range1 rfl T.f_range (pa_cons (pe_callB c_len rfl T.f_len (by decide +kernel) (pa_cons (pv 0) pa_nil)) pa_nil)) (pg_name (i := 1) sc_law_first_odd.nd rfl (by first | exact Or.inl rfl | exact Or.inr rfl)) (pss_one (ps_if (pt_cmpR op_notInA (pe_ix ix_seq (pv 0) (pv 1) (fun _ _ => rfl)) pe_str (by rfl)) (pss_one (ps_ret (pv 1))) pss_nil))) (pss_one (ps_ret (pe_un un_neg pe_int))))
/-! _law_spread -/
abbrev N_law_spread : List Str := ["_law_arrows", "_law_states", "_law_found", "_law_queue", "_law_state"]
def t_law_spread (K : Frg) (E : XK) : TS :=
  (tSeq (tAsg tDNewK (gName 2)) (tSeq (tAsg (tCB (rListA K) (tCons (tVar 1) tNil)) (gName 3)) (tSeq (tWhile (tTest (tOp (rNeA K) (tVar 3) (tLst tNil))) (tSeq (tAsg (tBM0 K "list" rPop (tVar 3)) (gName 4)) (tIfS (tB (tDNotIn (tVar 4) (tVar 2))) (tSeq (sDPut (tVar 2) (tVar 4) (tC (.bl true))) (tDrop (tBM K "list" rExtend (tVar 3) (tCons (tDGet2 (tVar 0) (tVar 4) (tLst tNil)) tNil)))) tNext))) (tRet (tCB (rSortedD K) (tCons (tCB rListDk (tCons (tVar 2) tNil)) tNil))))))
def sp_law_spread (K : Frg) : Sp := fun vs H Q E => vs.length = 2 ∧ t_law_spread K E { nx := fun _ H' => Q .non H', rt := Q } (start N_law_spread vs) H
theorem sc_law_spread : FnScope N_law_spread ["_law_arrows", "_law_states"] (defScope s_law_spread) := ⟨rfl, rfl, rfl, by decide +kernel, rfl, by decide +kernel, by decide +kernel⟩
theorem ok_law_spread (T : Txt PROG K mg) : ∃ fd, FnOk PROG w K mg base (L2.CX PROG w) 1 (Rz.pG "_law_spread" K) fd ["_law_arrows", "_law_states"] (sp_law_spread K) ∧ FunD K "_law_spread" "_law_spread" (defArgs s_law_spread) (defBody s_law_spread) (defScope s_law_spread) [] [] (Rz.pG "_law_spread" K) fd := by
  obtain ⟨fd, F⟩ := T.F_law_spread
  refine ⟨fd, F.ok sc_law_spread (fun vs H Q E h => h.1) (fun cdv A outer s H vs Q E hr h => ⟨t_law_spread K E, ?_, h.2⟩), F⟩
  exact (pss_cons (ps_set (i := 2) sc_law_spread.nd rfl (by first | exact Or.inl rfl | exact Or.inr rfl) pe_dnewK) (pss_cons (ps_set (i := 3) sc_law_spread.nd rfl (by first | exact Or.inl rfl | exact Or.inr rfl) (pe_callTy c_list rfl T.f_list (by decide +kernel) (pa_cons (pv 1) pa_nil))) (pss_cons (ps_while (passes_of rfl) (pt_cmpR (op_neA hr) (pv 3) (pe_lst pa_nil) (nomark _)) (pss_cons (ps_set (i := 4) sc_law_spread.nd rfl (by first | exact Or.inl rfl | exact Or.inr rfl) (pe_bm0 PySem.F.plainAttrs_list PySem.F.slot_list_pop PySem.F.type_list_pop mt_pop (pv 3))) (pss_one (ps_if (pt_cmp (pc_dnotin (Room.u1 hr) (pv 4) (pv 2)) (by rfl)) (pss_cons (ps_dput (Room.u1 hr) (pv 2) (pv 4) pe_bl rfl) (pss_one (ps_expr (pe_bm PySem.F.plainAttrs_list PySem.F.slot_list_extend PySem.F.type_list_extend mt_extend (pv 3) (pa_cons (pe_dget2 (Room.u1 hr) (pv 0) (pv 4) (pe_lst pa_nil) ⟨rfl, rfl, rfl, rfl⟩) pa_nil))))) pss_nil)))) (pss_one (ps_ret (pe_callB (cr_sortedD hr.units) rfl T.f_sorted (by decide +kernel) (pa_cons (pe_callTy (cr_listDk rfl) rfl T.f_list (by decide +kernel) (pa_cons (pv 2) pa_nil)) pa_nil)))))))
/-! _law_due_of -/
abbrev N_law_due_of : List Str := ["_law_many", "_law_last", "_law_moves", "_law_table", "_law_ahead", "_law_back", "_law_reached", "_law_led", "_law_useless", "_law_state", "_law_sign", "_law_goal", "_law_near"]
def t_law_due_of (K : Frg) (E : XK) : TS :=
  (tSeq (tIfS (tOr (tTest (tOp rLtA (tVar 0) (tC (.int 1)))) (tOr (tTest (tOp rGtA (tVar 0) (tC (.int 40)))) (tTest (tOp (rNeA K) (tLc (iList K (tVar 1)) (gName 9) (tOr (tTest (tOp rLtA (tVar 9) (tC (.int 0)))) (tTest (tOp rGeA (tVar 9) (tVar 0)))) (tVar 9) [9]) (tLst tNil))))) (tRet (tTup (tCons (tC (.str "bad")) (tCons (tC (.int 0)) tNil)))) tNext) (tSeq (tAsg tDNewT (gName 3)) (tSeq (tAsg tDNewK (gName 4)) (tSeq (tAsg tDNewK (gName 5)) (tSeq (tFor (iList K (tVar 2)) (gTup K 3 (gCons (gName 9) (gCons (gName 10) (gCons (gName 11) gNil)))) (tSeq (tIfS (tOr (tNot (tTest (tChain rLeA rLtA (tC (.int 0)) (tVar 9) (tVar 0)))) (tOr (tNot (tTest (tChain rLeA rLtA (tC (.int 0)) (tVar 11) (tVar 0)))) (tOr (tTest (tOp (rNeA K) (tCB (rLenA K) (tCons (tVar 10) tNil)) (tC (.int 1)))) (tTest (tOp rGeA (tCallSD (sp_law_first_odd K) [] (WE (W0 E)) (tCons (tVar 10) tNil)) (tC (.int 0))))))) (tRet (tTup (tCons (tC (.str "bad")) (tCons (tC (.int 0)) tNil)))) tNext) (tSeq (tIfS (tTest (tOp (rNeA K) (tDGet2 (tVar 3) (tTup (tCons (tVar 9) (tCons (tVar 10) tNil))) (tVar 11)) (tVar 11))) (tRet (tTup (tCons (tC (.str "bad")) (tCons (tC (.int 0)) tNil)))) tNext) (tSeq (sDPut (tVar 3) (tTup (tCons (tVar 9) (tCons (tVar 10) tNil))) (tVar 11)) (tSeq (tAsg (tDSetd (tVar 4) (tVar 9) (tLst tNil)) (gName 12)) (tSeq (tDrop (tBM K "list" rAppend (tVar 12) (tCons (tVar 11) tNil))) (tSeq (tAsg (tDSetd (tVar 5) (tVar 11) (tLst tNil)) (gName 12)) (tDrop (tBM K "list" rAppend (tVar 12) (tCons (tVar 9) tNil)))))))))) (tSeq (tAsg (tCallSD (sp_law_spread K) [] (WE (W0 E)) (tCons (tVar 4) (tCons (tLst (tCons (tC (.int 0)) tNil)) tNil))) (gName 6)) (tSeq (tAsg (tCallSD (sp_law_spread K) [] (WE (W0 E)) (tCons (tVar 5) (tCons (tVar 1) tNil))) (gName 7)) (tSeq (tAsg (tLc (iRng1 (tCons (tVar 0) tNil)) (gName 9) (tOr (tTest (tOp (rNotInA K) (tVar 9) (tVar 6))) (tTest (tOp (rNotInA K) (tVar 9) (tVar 7)))) (tVar 9) [9]) (gName 8)) (tSeq (tIfS (tTest (tOp (rNeA K) (tVar 8) (tLst tNil))) (tRet (tTup (tCons (tC (.str "useless")) (tCons (tOp (rIx K) (tVar 8) (tC (.int 0))) tNil)))) tNext) (tRet (tTup (tCons (tC (.str "lot")) (tCons (tVar 0) tNil)))))))))))))
def sp_law_due_of (K : Frg) : Sp := fun vs H Q E => vs.length = 3 ∧ t_law_due_of K E { nx := fun _ H' => Q .non H', rt := Q } (start N_law_due_of vs) H
theorem sc_law_due_of : FnScope N_law_due_of ["_law_many", "_law_last", "_law_moves"] (defScope s_law_due_of) := ⟨rfl, rfl, rfl, by decide +kernel, rfl, by decide +kernel, by decide +kernel⟩
theorem ok_law_due_of (T : Txt PROG K mg) : ∃ fd, FnOk PROG w K mg base (L2.CX PROG w) 2 (Rz.pG "_law_due_of" K) fd ["_law_many", "_law_last", "_law_moves"] (sp_law_due_of K) ∧ FunD K "_law_due_of" "_law_due_of" (defArgs s_law_due_of) (defBody s_law_due_of) (defScope s_law_due_of) [] [] (Rz.pG "_law_due_of" K) fd := by
  obtain ⟨fd_law_first_odd, G_law_first_odd, D_law_first_odd⟩ := ok_law_first_odd (w := w) (base := base) T
  obtain ⟨fd_law_spread, G_law_spread, D_law_spread⟩ := ok_law_spread (w := w) (base := base) T
  have b_law_first_odd_1 : Binds K fd_law_first_odd _ [] := D_law_first_odd.bindsN (ps := ["_law_text"]) (fun _ _ _ _ _ _ us hl => match us, hl with | [_], _ => rfl)
  have b_law_spread_2 : Binds K fd_law_spread _ [] := D_law_spread.bindsN (ps := ["_law_arrows", "_law_states"]) (fun _ _ _ _ _ _ us hl => match us, hl with | [_, _], _ => rfl)
  obtain ⟨fd, F⟩ := T.F_law_due_of
  refine ⟨fd, F.ok sc_law_due_of (fun vs H Q E h => h.1) (fun cdv A outer s H vs Q E hr h => ⟨t_law_due_of K E, ?_, h.2⟩), F⟩
  exact (pss_cons (ps_if (PW.pt (pw_or (pt_cmpR op_ltA (pv 0) pe_int (nomark _)) (pw_or (pt_cmpR op_gtA (pv 0) pe_int (nomark _)) (pw_or1 (pt_cmpR (op_neA hr) (pe_lc (own := [("_law_state", 9)]) rfl sc_law_due_of.nd (pi_list (pv 1)) (blkOk_by (own := [("_law_state", 9)]) (N := N_law_due_of) (sc := defScope s_law_due_of) (by decide +kernel)) (fun _ _ _ _ _ => (pg_name (i := 9) sc_law_due_of.nd rfl (by first | exact Or.inl rfl | exact Or.inr rfl))) (fun _ _ _ _ _ => (pts_one (PW.pt (pw_or (pt_cmpR op_ltA (pv 9) pe_int (nomark _)) (pw_or1 (pt_cmpR op_geA (pv 9) (pv 0) (nomark _))))))) (fun _ _ _ _ _ => (pv 9))) (pe_lst pa_nil) (nomark _)))))) (pss_one (ps_ret (pe_tup (pa_cons pe_str (pa_cons pe_int pa_nil))))) pss_nil) (pss_cons (ps_set (i := 3) sc_law_due_of.nd rfl (by first | exact Or.inl rfl | exact Or.inr rfl) pe_dnewT) (pss_cons (ps_set (i := 4) sc_law_due_of.nd rfl (by first | exact Or.inl rfl | exact Or.inr rfl) pe_dnewK) (pss_cons (ps_set (i := 5) sc_law_due_of.nd rfl (by first | exact Or.inl rfl | exact Or.inr rfl) pe_dnewK) (pss_cons (ps_for (passes_of rfl) rfl (pi_list (pv 2)) (pg_tup rfl (pgs_cons (pg_name (i := 9) sc_law_due_of.nd rfl (by first | exact Or.inl rfl | exact Or.inr rfl)) (pgs_cons (pg_name (i := 10) sc_law_due_of.nd rfl (by first | exact Or.inl rfl | exact Or.inr rfl)) (pgs_cons (pg_name (i := 11) sc_law_due_of.nd rfl (by first | exact Or.inl rfl | exact Or.inr rfl)) pgs_nil)))) (pss_cons (ps_if (PW.pt (pw_or (pt_not (pt_chain op_leA op_ltA pe_int (pv 9) (pv 0))) (pw_or (pt_not (pt_chain op_leA op_ltA pe_int (pv 11) (pv 0))) (pw_or (pt_cmpR (op_neA hr) (pe_callB c_len rfl T.f_len (by decide +kernel) (pa_cons (pv 10) pa_nil)) pe_int (nomark _)) (pw_or1 (pt_cmpR op_geA (pe_callSD G_law_first_odd (hr.mono (by decide)) rfl T.g__law_first_odd D_law_first_odd.kp b_law_first_odd_1 .nil (fun σ => passAt (takes_of rfl rfl rfl rfl) σ) (pa_cons (pv 10) pa_nil)) pe_int (nomark _))))))) (pss_one (ps_ret (pe_tup (pa_cons pe_str (pa_cons pe_int pa_nil))))) pss_nil) (pss_cons (ps_if (pt_cmpR (op_neA hr) (pe_dget2 (Room.u1 hr) (pv 3) (pe_tup (pa_cons (pv 9) (pa_cons (pv 10) pa_nil))) (pv 11) ⟨rfl, rfl, rfl, rfl⟩) (pv 11) (nomark _)) (pss_one (ps_ret (pe_tup (pa_cons pe_str (pa_cons pe_int pa_nil))))) pss_nil) (pss_cons (ps_dput (Room.u1 hr) (pv 3) (pe_tup (pa_cons (pv 9) (pa_cons (pv 10) pa_nil))) (pv 11) rfl) (pss_cons (ps_set (i := 12) sc_law_due_of.nd rfl (by first | exact Or.inl rfl | exact Or.inr rfl) (pe_dsetd (pv 4) (pv 9) (pe_lst pa_nil) ⟨rfl, rfl, rfl, rfl⟩)) (pss_cons (ps_expr (pe_bm PySem.F.plainAttrs_list PySem.F.slot_list_append PySem.F.type_list_append mt_append (pv 12) (pa_cons (pv 11) pa_nil))) (pss_cons (ps_set (i := 12) sc_law_due_of.nd rfl (by first | exact Or.inl rfl | exact Or.inr rfl) (pe_dsetd (pv 5) (pv 11) (pe_lst pa_nil) ⟨rfl, rfl, rfl, rfl⟩)) (pss_one (ps_expr (pe_bm PySem.F.plainAttrs_list PySem.F.slot_list_append PySem.F.type_list_append mt_append (pv 12) (pa_cons (pv 9) pa_nil))))))))))) (pss_cons (ps_set (i := 6) sc_law_due_of.nd rfl (by first | exact Or.inl rfl | exact Or.inr rfl) (pe_callSD G_law_spread (hr.mono (by decide)) rfl T.g__law_spread D_law_spread.kp b_law_spread_2 .nil (fun σ => passAt (takes_of rfl rfl rfl rfl) σ) (pa_cons (pv 4) (pa_cons (pe_lst (pa_cons pe_int pa_nil)) pa_nil)))) (pss_cons (ps_set (i := 7) sc_law_due_of.nd rfl (by first | exact Or.inl rfl | exact Or.inr rfl) (pe_callSD G_law_spread (hr.mono (by decide)) rfl T.g__law_spread D_law_spread.kp b_law_spread_2 .nil (fun σ => passAt (takes_of rfl rfl rfl rfl) σ) (pa_cons (pv 5) (pa_cons (pv 1) pa_nil)))) (pss_cons (by first | (refine ps_setLc (i := 8) (own := [("_law_state", 9)]) rfl sc_law_due_of.nd rfl rfl ?e ?f ?g ?h ?i ?j; (case e => exact sw_true rfl rfl rfl (by decide +kernel)); (case f => exact (pi_range1 rfl T.f_range (pa_cons (pv 0) pa_nil))); (case g => exact (blkOk_by (own := [("_law_state", 9)]) (N := N_law_due_of) (sc := defScope s_law_due_of) (by decide +kernel))); (case h => exact (fun _ _ _ _ _ => (pg_name (i := 9) sc_law_due_of.nd rfl (by first | exact Or.inl rfl | exact Or.inr rfl)))); (case i => exact (fun _ _ _ _ _ => (pts_one (PW.pt (pw_or (pt_cmpR op_notInA (pv 9) (pv 6) (by rfl)) (pw_or1 (pt_cmpR op_notInA (pv 9) (pv 7) (by rfl)))))))); (case j => exact (fun _ _ _ _ _ => (pv 9)))) | exact (ps_set (i := 8) sc_law_due_of.nd rfl (by first | exact Or.inl rfl | exact Or.inr rfl) (pe_lc (own := [("_law_state", 9)]) rfl sc_law_due_of.nd (pi_range1 rfl T.f_range (pa_cons (pv 0) pa_nil)) (blkOk_by (own := [("_law_state", 9)]) (N := N_law_due_of) (sc := defScope s_law_due_of) (by decide +kernel)) (fun _ _ _ _ _ => (pg_name (i := 9) sc_law_due_of.nd rfl (by first | exact Or.inl rfl | exact Or.inr rfl))) (fun _ _ _ _ _ => (pts_one (PW.pt (pw_or (pt_cmpR op_notInA (pv 9) (pv 6) (by rfl)) (pw_or1 (pt_cmpR op_notInA (pv 9) (pv 7) (by rfl))))))) (fun _ _ _ _ _ => (pv 9))))) (pss_cons (ps_if (pt_cmpR (op_neA hr) (pv 8) (pe_lst pa_nil) (nomark _)) (pss_one (ps_ret (pe_tup (pa_cons pe_str (pa_cons (pe_ix ix_seq (pv 8) pe_int (fun _ _ => rfl)) pa_nil))))) pss_nil) (pss_one (ps_ret (pe_tup (pa_cons pe_str (pa_cons (pv 0) pa_nil))))))))))))))
/-! is_sign -/
abbrev N_is_sign : List Str := ["string"]
def t_is_sign (K : Frg) (E : XK) : TS :=
  (tRet (tAndV (tOp (rEqA K) (tCB (rLenA K) (tCons (tVar 0) tNil)) (tC (.int 1))) (tOp (rInA K) (tVar 0) (tC (.str "abcdefghijklmnopqrstuvwxyz")))))
def sp_is_sign (K : Frg) : Sp := fun vs H Q E => vs.length = 1 ∧ t_is_sign K E { nx := fun _ H' => Q .non H', rt := Q } (start N_is_sign vs) H
theorem sc_is_sign : FnScope N_is_sign ["string"] (defScope s_is_sign) := ⟨rfl, rfl, rfl, by decide +kernel, rfl, by decide +kernel, by decide +kernel⟩
theorem ok_is_sign (T : Txt PROG K mg) : ∃ fd, FnOk PROG w K mg base (L2.CX PROG w) 1 (Rz.pG "is_sign" K) fd ["string"] (sp_is_sign K) ∧ FunD K "is_sign" "is_sign" (defArgs s_is_sign) (defBody s_is_sign) (defScope s_is_sign) [] [] (Rz.pG "is_sign" K) fd := by
  obtain ⟨fd, F⟩ := T.F_is_sign
  refine ⟨fd, F.ok sc_is_sign (fun vs H Q E h => h.1) (fun cdv A outer s H vs Q E hr h => ⟨t_is_sign K E, ?_, h.2⟩), F⟩
  exact (pss_one (ps_ret (pe_and (pe_cmpR (op_eqA hr) (pe_callB c_len rfl T.f_len (by decide +kernel) (pa_cons (pv 0) pa_nil)) pe_int (nomark _)) (pe_one (pe_cmpR op_inA (pv 0) (pe_gstr rfl T.k_SIGNS) (by rfl))))))
/-! reached -/
abbrev N_reached : List Str := ["starts", "arrows", "found", "queue", "state", "goal"]
def t_reached (K : Frg) (E : XK) : TS :=
  (tSeq (tAsg tDNewK (gName 2)) (tSeq (tAsg (tCB (rListA K) (tCons (tVar 0) tNil)) (gName 3)) (tSeq (tWhile (tTruth K (tVar 3)) (tSeq (tAsg (tBM0 K "list" rPop (tVar 3)) (gName 4)) (tIfS (tB (tDNotIn (tVar 4) (tVar 2))) (tSeq (sDPut (tVar 2) (tVar 4) (tC (.bl true))) (tDrop (tBM K "list" rExtend (tVar 3) (tCons (tLc (iList K (tDGet2 (tVar 1) (tVar 4) (tLst tNil))) (gName 5) (tB (tDNotIn (tVar 5) (tVar 2))) (tVar 5) [5]) tNil)))) tNext))) (tRet (tVar 2)))))
def sp_reached (K : Frg) : Sp := fun vs H Q E => vs.length = 2 ∧ t_reached K E { nx := fun _ H' => Q .non H', rt := Q } (start N_reached vs) H
theorem sc_reached : FnScope N_reached ["starts", "arrows"] (defScope s_reached) := ⟨rfl, rfl, rfl, by decide +kernel, rfl, by decide +kernel, by decide +kernel⟩
theorem ok_reached (T : Txt PROG K mg) : ∃ fd, FnOk PROG w K mg base (L2.CX PROG w) 1 (Rz.pG "reached" K) fd ["starts", "arrows"] (sp_reached K) ∧ FunD K "reached" "reached" (defArgs s_reached) (defBody s_reached) (defScope s_reached) [] [] (Rz.pG "reached" K) fd := by
  obtain ⟨fd, F⟩ := T.F_reached
  refine ⟨fd, F.ok sc_reached (fun vs H Q E h => h.1) (fun cdv A outer s H vs Q E hr h => ⟨t_reached K E, ?_, h.2⟩), F⟩
  exact (pss_cons (ps_set (i := 2) sc_reached.nd rfl (by first | exact Or.inl rfl | exact Or.inr rfl) pe_dnewK) (pss_cons (ps_set (i := 3) sc_reached.nd rfl (by first | exact Or.inl rfl | exact Or.inr rfl) (pe_callTy c_list rfl T.f_list (by decide +kernel) (pa_cons (pv 0) pa_nil))) (pss_cons (ps_while (passes_of rfl) (pt_truth (pv 3) (by intro _; rfl)) (pss_cons (ps_set (i := 4) sc_reached.nd rfl (by first | exact Or.inl rfl | exact Or.inr rfl) (pe_bm0 PySem.F.plainAttrs_list PySem.F.slot_list_pop PySem.F.type_list_pop mt_pop (pv 3))) (pss_one (ps_if (pt_cmp (pc_dnotin (Room.u1 hr) (pv 4) (pv 2)) (by rfl)) (pss_cons (ps_dput (Room.u1 hr) (pv 2) (pv 4) pe_bl rfl) (pss_one (ps_expr (pe_bm PySem.F.plainAttrs_list PySem.F.slot_list_extend PySem.F.type_list_extend mt_extend (pv 3) (pa_cons (pe_lc (own := [("goal", 5)]) rfl sc_reached.nd (pi_list (pe_dget2 (Room.u1 hr) (pv 1) (pv 4) (pe_lst pa_nil) ⟨rfl, rfl, rfl, rfl⟩)) (blkOk_by (own := [("goal", 5)]) (N := N_reached) (sc := defScope s_reached) (by decide +kernel)) (fun _ _ _ _ _ => (pg_name (i := 5) sc_reached.nd rfl (by first | exact Or.inl rfl | exact Or.inr rfl))) (fun _ _ _ _ _ => (pts_one (pt_cmp (pc_dnotin (Room.u1 hr) (pv 5) (pv 2)) (by rfl)))) (fun _ _ _ _ _ => (pv 5))) pa_nil))))) pss_nil)))) (pss_one (ps_ret (pv 2))))))
/-! Lot.__init__ -/
abbrev N_Lot_init : List Str := ["self", "states", "last", "moves", "state", "ahead", "back", "from_first", "to_last", "sign", "goal"]
def t_Lot_init (K : Frg) (E : XK) : TS :=
  (tSeq (tIfS (tNot (tTest (tChain rLeA rLeA (tC (.int 1)) (tVar 1) (tC (.int 40))))) (tRaise (tMkX0 (He.ga K "BadLot")) (W0 E)) tNext) (tSeq (tFor (iList K (tVar 2)) (gName 4) (tIfS (tNot (tTest (tChain rLeA rLtA (tC (.int 0)) (tVar 4) (tVar 1)))) (tRaise (tMkX0 (He.ga K "BadLot")) (W0 E)) tNext)) (tSeq (sFld K (tVar 0) tDNewT "table") (tSeq (tAsg tDNewK (gName 5)) (tSeq (tAsg tDNewK (gName 6)) (tSeq (tFor (iList K (tVar 3)) (gTup K 3 (gCons (gName 4) (gCons (gName 9) (gCons (gName 10) gNil)))) (tSeq (tIfS (tOr (tNot (tTest (tChain rLeA rLtA (tC (.int 0)) (tVar 4) (tVar 1)))) (tOr (tNot (tTest (tChain rLeA rLtA (tC (.int 0)) (tVar 10) (tVar 1)))) (tNot (tB (tCallSD (sp_is_sign K) [] (WE (W0 E)) (tCons (tVar 9) tNil)))))) (tRaise (tMkX0 (He.ga K "BadLot")) (W0 E)) tNext) (tSeq (tIfS (tTest (tOp (rNeA K) (tDGet2 (tFld K (tVar 0) "table") (tTup (tCons (tVar 4) (tCons (tVar 9) tNil))) (tVar 10)) (tVar 10))) (tRaise (tMkX0 (He.ga K "BadLot")) (W0 E)) tNext) (tSeq (sDPut (tFld K (tVar 0) "table") (tTup (tCons (tVar 4) (tCons (tVar 9) tNil))) (tVar 10)) (tSeq (tDrop (tBM K "list" rAppend (tDSetd (tVar 5) (tVar 4) (tLst tNil)) (tCons (tVar 10) tNil))) (tDrop (tBM K "list" rAppend (tDSetd (tVar 6) (tVar 10) (tLst tNil)) (tCons (tVar 4) tNil)))))))) (tSeq (sFld K (tVar 0) (tVar 1) "many") (tSeq (sFld K (tVar 0) (SetX.tSortSet SetX.memK K (tVar 2)) "finals") (tSeq (tAsg (tCallSD (sp_reached K) [] (WE (W0 E)) (tCons (tLst (tCons (tC (.int 0)) tNil)) (tCons (tVar 5) tNil))) (gName 7)) (tSeq (tAsg (tCallSD (sp_reached K) [] (WE (W0 E)) (tCons (tFld K (tVar 0) "finals") (tCons (tVar 6) tNil))) (gName 8)) (tFor (iRng1 (tCons (tVar 1) tNil)) (gName 4) (tIfS (tOr (tB (tDNotIn (tVar 4) (tVar 7))) (tB (tDNotIn (tVar 4) (tVar 8)))) (tRaise (tMkX (He.ga K "Useless") "state" (tCons (tVar 4) tNil)) (W0 E)) tNext))))))))))))
def sp_Lot_init (K : Frg) : Sp := fun vs H Q E => vs.length = 4 ∧ t_Lot_init K E { nx := fun _ H' => Q .non H', rt := Q } (start N_Lot_init vs) H
theorem sc_Lot_init : FnScope N_Lot_init ["self", "states", "last", "moves"] (defScope s_Lot_init) := ⟨rfl, rfl, rfl, by decide +kernel, rfl, by decide +kernel, by decide +kernel⟩
theorem ok_Lot_init (T : Txt PROG K mg) : ∃ fd, FnOk PROG w K mg base (L2.CX PROG w) 2 (Rz.pM "Lot" "__init__" K) fd ["self", "states", "last", "moves"] (sp_Lot_init K) ∧ FunD K "__init__" "Lot.__init__" (defArgs s_Lot_init) (defBody s_Lot_init) (defScope s_Lot_init) [] [] (Rz.pM "Lot" "__init__" K) fd := by
  obtain ⟨fd_is_sign, G_is_sign, D_is_sign⟩ := ok_is_sign (w := w) (base := base) T
  obtain ⟨fd_reached, G_reached, D_reached⟩ := ok_reached (w := w) (base := base) T
  have b_is_sign_1 : Binds K fd_is_sign _ [] := D_is_sign.bindsN (ps := ["string"]) (fun _ _ _ _ _ _ us hl => match us, hl with | [_], _ => rfl)
  have b_reached_2 : Binds K fd_reached _ [] := D_reached.bindsN (ps := ["starts", "arrows"]) (fun _ _ _ _ _ _ us hl => match us, hl with | [_, _], _ => rfl)
  obtain ⟨fd, F⟩ := T.F_Lot_init
  refine ⟨fd, F.ok sc_Lot_init (fun vs H Q E h => h.1) (fun cdv A outer s H vs Q E hr h => ⟨t_Lot_init K E, ?_, h.2⟩), F⟩
  exact (pss_cons (ps_if (pt_not (pt_chain op_leA op_leA pe_int (pv 1) (pe_gint rfl T.k_MOST_STATES))) (pss_one (ps_raise rfl (takes_of rfl rfl rfl rfl) (pmk_sup0 T.x_BadLot T.f_super hr rfl T.g_BadLot))) pss_nil) (pss_cons (ps_for (passes_of rfl) rfl (pi_list (pv 2)) (pg_name (i := 4) sc_Lot_init.nd rfl (by first | exact Or.inl rfl | exact Or.inr rfl)) (pss_one (ps_if (pt_not (pt_chain op_leA op_ltA pe_int (pv 4) (pv 1))) (pss_one (ps_raise rfl (takes_of rfl rfl rfl rfl) (pmk_sup0 T.x_BadLot T.f_super hr rfl T.g_BadLot))) pss_nil))) (pss_cons (ps_fld (pv 0) pe_dnewT rfl) (pss_cons (ps_set (i := 5) sc_Lot_init.nd rfl (by first | exact Or.inl rfl | exact Or.inr rfl) pe_dnewK) (pss_cons (ps_set (i := 6) sc_Lot_init.nd rfl (by first | exact Or.inl rfl | exact Or.inr rfl) pe_dnewK) (pss_cons (ps_for (passes_of rfl) rfl (pi_list (pv 3)) (pg_tup rfl (pgs_cons (pg_name (i := 4) sc_Lot_init.nd rfl (by first | exact Or.inl rfl | exact Or.inr rfl)) (pgs_cons (pg_name (i := 9) sc_Lot_init.nd rfl (by first | exact Or.inl rfl | exact Or.inr rfl)) (pgs_cons (pg_name (i := 10) sc_Lot_init.nd rfl (by first | exact Or.inl rfl | exact Or.inr rfl)) pgs_nil)))) (pss_cons (ps_if (PW.pt (pw_or (pt_not (pt_chain op_leA op_ltA pe_int (pv 4) (pv 1))) (pw_or (pt_not (pt_chain op_leA op_ltA pe_int (pv 10) (pv 1))) (pw_or1 (pt_not (pt_val (pe_callSD G_is_sign (hr.mono (by decide)) rfl T.g_is_sign D_is_sign.kp b_is_sign_1 .nil (fun σ => passAt (takes_of rfl rfl rfl rfl) σ) (pa_cons (pv 9) pa_nil)))))))) (pss_one (ps_raise rfl (takes_of rfl rfl rfl rfl) (pmk_sup0 T.x_BadLot T.f_super hr rfl T.g_BadLot))) pss_nil) (pss_cons (ps_if (pt_cmpR (op_neA hr) (pe_dget2 (Room.u1 hr) (pe_fld (pv 0) rfl) (pe_tup (pa_cons (pv 4) (pa_cons (pv 9) pa_nil))) (pv 10) ⟨rfl, rfl, rfl, rfl⟩) (pv 10) (nomark _)) (pss_one (ps_raise rfl (takes_of rfl rfl rfl rfl) (pmk_sup0 T.x_BadLot T.f_super hr rfl T.g_BadLot))) pss_nil) (pss_cons (ps_dput (Room.u1 hr) (pe_fld (pv 0) rfl) (pe_tup (pa_cons (pv 4) (pa_cons (pv 9) pa_nil))) (pv 10) rfl) (pss_cons (ps_expr (pe_bm PySem.F.plainAttrs_list PySem.F.slot_list_append PySem.F.type_list_append mt_append (pe_dsetd (pv 5) (pv 4) (pe_lst pa_nil) ⟨rfl, rfl, rfl, rfl⟩) (pa_cons (pv 10) pa_nil))) (pss_one (ps_expr (pe_bm PySem.F.plainAttrs_list PySem.F.slot_list_append PySem.F.type_list_append mt_append (pe_dsetd (pv 6) (pv 10) (pe_lst pa_nil) ⟨rfl, rfl, rfl, rfl⟩) (pa_cons (pv 4) pa_nil))))))))) (pss_cons (ps_fld (pv 0) (pv 1) rfl) (pss_cons (ps_fld (pv 0) (SetX.pe_sortSetL (SetX.kitK _ _) rfl hr.units rfl T.f_sorted rfl T.f_set (pv 2)) rfl) (pss_cons (ps_set (i := 7) sc_Lot_init.nd rfl (by first | exact Or.inl rfl | exact Or.inr rfl) (pe_callSD G_reached (hr.mono (by decide)) rfl T.g_reached D_reached.kp b_reached_2 .nil (fun σ => passAt (takes_of rfl rfl rfl rfl) σ) (pa_cons (pe_lst (pa_cons pe_int pa_nil)) (pa_cons (pv 5) pa_nil)))) (pss_cons (ps_set (i := 8) sc_Lot_init.nd rfl (by first | exact Or.inl rfl | exact Or.inr rfl) (pe_callSD G_reached (hr.mono (by decide)) rfl T.g_reached D_reached.kp b_reached_2 .nil (fun σ => passAt (takes_of rfl rfl rfl rfl) σ) (pa_cons (pe_fld (pv 0) rfl) (pa_cons (pv 6) pa_nil)))) (pss_one (ps_for (passes_of rfl) rfl (pi_range1 rfl T.f_range (pa_cons (pv 1) pa_nil)) (pg_name (i := 4) sc_Lot_init.nd rfl (by first | exact Or.inl rfl | exact Or.inr rfl)) (pss_one (ps_if (PW.pt (pw_or (pt_cmp (pc_dnotin (Room.u1 hr) (pv 4) (pv 7)) (by rfl)) (pw_or1 (pt_cmp (pc_dnotin (Room.u1 hr) (pv 4) (pv 8)) (by rfl))))) (pss_one (ps_raise rfl (takes_of rfl rfl rfl rfl) (pmk_supU T.x_Useless T.f_super hr rfl T.g_Useless (pa_cons (pv 4) pa_nil)))) pss_nil))))))))))))))
/-! Lot.states -/
abbrev N_Lot_states : List Str := ["self"]
def t_Lot_states (K : Frg) (E : XK) : TS :=
  (tRet (tFld K (tVar 0) "many"))
def sp_Lot_states (K : Frg) : Sp := fun vs H Q E => vs.length = 1 ∧ t_Lot_states K E { nx := fun _ H' => Q .non H', rt := Q } (start N_Lot_states vs) H
theorem sc_Lot_states : FnScope N_Lot_states ["self"] (defScope s_Lot_states) := ⟨rfl, rfl, rfl, by decide +kernel, rfl, by decide +kernel, by decide +kernel⟩
theorem ok_Lot_states (T : Txt PROG K mg) : ∃ fd, FnOk PROG w K mg base (L2.CX PROG w) 1 (Rz.pP "Lot" "states" K) fd ["self"] (sp_Lot_states K) ∧ FunD K "states" "Lot.states" (defArgs s_Lot_states) (defBody s_Lot_states) (defScope s_Lot_states) [] [] (Rz.pP "Lot" "states" K) fd := by
  obtain ⟨fd, F⟩ := T.F_Lot_states
  refine ⟨fd, F.ok sc_Lot_states (fun vs H Q E h => h.1) (fun cdv A outer s H vs Q E hr h => ⟨t_Lot_states K E, ?_, h.2⟩), F⟩
  exact (pss_one (ps_ret (pe_fld (pv 0) rfl)))
/-! _law_try_make -/
abbrev N_law_try_make : List Str := ["_law_many", "_law_last", "_law_moves", "e", "_law_made"]
def t_law_try_make (K : Frg) (E : XK) : TS :=
  (tSeq (tTry K (W0 E) (fun W => (tAsg (tMakeS (He.ga K "Lot") (sp_Lot_init K) [] (WE W) (tCons (tVar 0) (tCons (tVar 1) (tCons (tVar 2) tNil)))) (gName 4))) [⟨.ref (He.ga K "Useless"), some 3, fun a cls d => (tRet (tTup (tCons (tC (.str "useless")) (tCons (tXf a cls d (He.ga K "Useless") "state" (tVar 3)) tNil))))⟩, ⟨.ref (He.ga K "BadLot"), none, fun a cls d => (tRet (tTup (tCons (tC (.str "bad")) (tCons (tC (.int 0)) tNil))))⟩]) (tRet (tTup (tCons (tC (.str "lot")) (tCons (tProp (He.ga K "Lot") (sp_Lot_states K) [] E0 (tVar 4)) tNil)))))
def sp_law_try_make (K : Frg) : Sp := fun vs H Q E => vs.length = 3 ∧ t_law_try_make K E { nx := fun _ H' => Q .non H', rt := Q } (start N_law_try_make vs) H
theorem sc_law_try_make : FnScope N_law_try_make ["_law_many", "_law_last", "_law_moves"] (defScope s_law_try_make) := ⟨rfl, rfl, rfl, by decide +kernel, rfl, by decide +kernel, by decide +kernel⟩
theorem ok_law_try_make (T : Txt PROG K mg) : ∃ fd, FnOk PROG w K mg base (L2.CX PROG w) 4 (Rz.pG "_law_try_make" K) fd ["_law_many", "_law_last", "_law_moves"] (sp_law_try_make K) ∧ FunD K "_law_try_make" "_law_try_make" (defArgs s_law_try_make) (defBody s_law_try_make) (defScope s_law_try_make) [] [] (Rz.pG "_law_try_make" K) fd := by
  obtain ⟨fd_Lot_init, G_Lot_init, D_Lot_init⟩ := ok_Lot_init (w := w) (base := base) T
  obtain ⟨fd_Lot_states, G_Lot_states, D_Lot_states⟩ := ok_Lot_states (w := w) (base := base) T
  have b_Lot_init_4 : Binds K fd_Lot_init _ [] := D_Lot_init.bindsN (ps := ["self", "states", "last", "moves"]) (fun _ _ _ _ _ _ us hl => match us, hl with | [_, _, _, _], _ => rfl)
  have b_Lot_states_1 : Binds K fd_Lot_states _ [] := D_Lot_states.bindsN (ps := ["self"]) (fun _ _ _ _ _ _ us hl => match us, hl with | [_], _ => rfl)
  obtain ⟨fd, F⟩ := T.F_law_try_make
  refine ⟨fd, F.ok sc_law_try_make (fun vs H Q E h => h.1) (fun cdv A outer s H vs Q E hr h => ⟨t_law_try_make K E, ?_, h.2⟩), F⟩
  exact (pss_cons (ps_tryM rfl rfl sc_law_try_make.nd (takes_of rfl rfl rfl rfl) (fun W pn xe tk po => by exact (pss_one (ps_set (i := 4) sc_law_try_make.nd rfl (by first | exact Or.inl rfl | exact Or.inr rfl) (pe_makeS T.mk_Lot G_Lot_init (hr.mono (by decide)) rfl T.g_Lot b_Lot_init_4 .nil (fun σ => passAt tk σ) (pa_cons (pv 0) (pa_cons (pv 1) (pa_cons (pv 2) pa_nil))))))) (HdsMix.consA (i := 3) rfl rfl ⟨rfl, by decide, Or.inl T.g_Useless⟩ (fun a oe cls d pn hz hf => by exact (pss_one (ps_ret (pe_tup (pa_cons pe_str (pa_cons (pe_xf (T.xb_Useless).2 T.n_Useless_state hz hf (pv 3)) pa_nil)))))) (HdsMix.cons ⟨rfl, by decide, Or.inl T.g_BadLot⟩ (fun a oe cls d pn hz hf => by exact (pss_one (ps_ret (pe_tup (pa_cons pe_str (pa_cons pe_int pa_nil)))))) HdsMix.nil))) (pss_one (ps_ret (pe_tup (pa_cons pe_str (pa_cons (pe_prop (pv 4) T.c_Lot T.p_Lot_states G_Lot_states (hr.mono (by decide)) b_Lot_states_1 .nil passL rfl) pa_nil))))))
/-! _law_is_int -/
abbrev N_law_is_int : List Str := ["_law_value"]
def t_law_is_int (K : Frg) (E : XK) : TS :=
  (tRet (tAndV (tCB (rIsiA K) (tCons (tVar 0) (tCons (tC (.ty "int")) tNil))) (tNotV (tCB (rIsiA K) (tCons (tVar 0) (tCons (tC (.ty "bool")) tNil))))))
def sp_law_is_int (K : Frg) : Sp := fun vs H Q E => vs.length = 1 ∧ t_law_is_int K E { nx := fun _ H' => Q .non H', rt := Q } (start N_law_is_int vs) H
theorem sc_law_is_int : FnScope N_law_is_int ["_law_value"] (defScope s_law_is_int) := ⟨rfl, rfl, rfl, by decide +kernel, rfl, by decide +kernel, by decide +kernel⟩
theorem ok_law_is_int (T : Txt PROG K mg) : ∃ fd, FnOk PROG w K mg base (L2.CX PROG w) 1 (Rz.pG "_law_is_int" K) fd ["_law_value"] (sp_law_is_int K) ∧ FunD K "_law_is_int" "_law_is_int" (defArgs s_law_is_int) (defBody s_law_is_int) (defScope s_law_is_int) [] [] (Rz.pG "_law_is_int" K) fd := by
  obtain ⟨fd, F⟩ := T.F_law_is_int
  refine ⟨fd, F.ok sc_law_is_int (fun vs H Q E h => h.1) (fun cdv A outer s H vs Q E hr h => ⟨t_law_is_int K E, ?_, h.2⟩), F⟩
  exact (pss_one (ps_ret (pe_and (pe_callB c_isi rfl T.f_isinstance (by decide +kernel) (pa_cons (pv 0) (pa_cons (pe_bltn rfl T.f_int (by decide +kernel) rfl) pa_nil))) (pe_one (pe_not (pe_callB c_isi rfl T.f_isinstance (by decide +kernel) (pa_cons (pv 0) (pa_cons (pe_bltn rfl T.f_bool (by decide +kernel) rfl) pa_nil))))))))
/-! check_text -/
abbrev N_check_text : List Str := ["text", "at", "sign"]
def t_check_text (K : Frg) (E : XK) : TS :=
  (tFor (iEnumS (tCons (tVar 0) tNil)) (gTup K 2 (gCons (gName 1) (gCons (gName 2) gNil))) (tIfS (tTest (tOp (rNotInA K) (tVar 2) (tC (.str "abcdefghijklmnopqrstuvwxyz")))) (tRaise (tMkX (He.ga K "BadSign") "at" (tCons (tVar 1) tNil)) (W0 E)) tNext))
def sp_check_text (K : Frg) : Sp := fun vs H Q E => vs.length = 1 ∧ t_check_text K E { nx := fun _ H' => Q .non H', rt := Q } (start N_check_text vs) H
theorem sc_check_text : FnScope N_check_text ["text"] (defScope s_check_text) := ⟨rfl, rfl, rfl, by decide +kernel, rfl, by decide +kernel, by decide +kernel⟩
theorem ok_check_text (T : Txt PROG K mg) : ∃ fd, FnOk PROG w K mg base (L2.CX PROG w) 1 (Rz.pG "check_text" K) fd ["text"] (sp_check_text K) ∧ FunD K "check_text" "check_text" (defArgs s_check_text) (defBody s_check_text) (defScope s_check_text) [] [] (Rz.pG "check_text" K) fd := by
  obtain ⟨fd, F⟩ := T.F_check_text
  refine ⟨fd, F.ok sc_check_text (fun vs H Q E h => h.1) (fun cdv A outer s H vs Q E hr h => ⟨t_check_text K E, ?_, h.2⟩), F⟩
  exact (pss_one (ps_for (passes_of rfl) rfl (pi_enumS rfl T.f_enumerate (pa_cons (pv 0) pa_nil)) (pg_tup rfl (pgs_cons (pg_name (i := 1) sc_check_text.nd rfl (by first | exact Or.inl rfl | exact Or.inr rfl)) (pgs_cons (pg_name (i := 2) sc_check_text.nd rfl (by first | exact Or.inl rfl | exact Or.inr rfl)) pgs_nil))) (pss_one (ps_if (pt_cmpR op_notInA (pv 2) (pe_gstr rfl T.k_SIGNS) (by rfl)) (pss_one (ps_raise rfl (takes_of rfl rfl rfl rfl) (pmk_sup1 T.x_BadSign T.f_super hr rfl T.g_BadSign (pa_cons (pv 1) pa_nil)))) pss_nil))))
/-! Lot.every -/
abbrev N_Lot_every : List Str := ["cls", "signs", "sign"]
def t_Lot_every (K : Frg) (E : XK) : TS :=
  (tSeq (tDrop (tCallSD (sp_check_text K) [] (WE (W0 E)) (tCons (tVar 1) tNil))) (tRet (tMakeV (He.ga K "Lot") (sp_Lot_init K) [] (WE (W0 E)) (tVar 0) (tCons (tC (.int 1)) (tCons (tLst (tCons (tC (.int 0)) tNil)) (tCons (tLc (iStr (tVar 1)) (gName 2) tYes (tTup (tCons (tC (.int 0)) (tCons (tVar 2) (tCons (tC (.int 0)) tNil)))) [2]) tNil))))))
def sp_Lot_every (K : Frg) : Sp := fun vs H Q E => vs.length = 2 ∧ t_Lot_every K E { nx := fun _ H' => Q .non H', rt := Q } (start N_Lot_every vs) H
theorem sc_Lot_every : FnScope N_Lot_every ["cls", "signs"] (defScope s_Lot_every) := ⟨rfl, rfl, rfl, by decide +kernel, rfl, by decide +kernel, by decide +kernel⟩
theorem ok_Lot_every (T : Txt PROG K mg) : ∃ fd, FnOk PROG w K mg base (L2.CX PROG w) 4 (Rz.pC "Lot" "every" K) fd ["cls", "signs"] (sp_Lot_every K) ∧ FunD K "every" "Lot.every" (defArgs s_Lot_every) (defBody s_Lot_every) (defScope s_Lot_every) [] [] (Rz.pC "Lot" "every" K) fd := by
  obtain ⟨fd_check_text, G_check_text, D_check_text⟩ := ok_check_text (w := w) (base := base) T
  obtain ⟨fd_Lot_init, G_Lot_init, D_Lot_init⟩ := ok_Lot_init (w := w) (base := base) T
  have b_check_text_1 : Binds K fd_check_text _ [] := D_check_text.bindsN (ps := ["text"]) (fun _ _ _ _ _ _ us hl => match us, hl with | [_], _ => rfl)
  have b_Lot_init_4 : Binds K fd_Lot_init _ [] := D_Lot_init.bindsN (ps := ["self", "states", "last", "moves"]) (fun _ _ _ _ _ _ us hl => match us, hl with | [_, _, _, _], _ => rfl)
  obtain ⟨fd, F⟩ := T.F_Lot_every
  refine ⟨fd, F.ok sc_Lot_every (fun vs H Q E h => h.1) (fun cdv A outer s H vs Q E hr h => ⟨t_Lot_every K E, ?_, h.2⟩), F⟩
  exact (pss_cons (ps_expr (pe_callSD G_check_text (hr.mono (by decide)) rfl T.g_check_text D_check_text.kp b_check_text_1 .nil (fun σ => passAt (takes_of rfl rfl rfl rfl) σ) (pa_cons (pv 1) pa_nil))) (pss_one (ps_ret (pe_makeV (pv 0) T.mk_Lot G_Lot_init (hr.mono (by decide)) b_Lot_init_4 .nil (fun σ => passAt (takes_of rfl rfl rfl rfl) σ) (pa_cons pe_int (pa_cons (pe_lst (pa_cons pe_int pa_nil)) (pa_cons (pe_lc (own := [("sign", 2)]) rfl sc_Lot_every.nd (pi_str (pv 1)) (blkOk_by (own := [("sign", 2)]) (N := N_Lot_every) (sc := defScope s_Lot_every) (by decide +kernel)) (fun _ _ _ _ _ => (pg_name (i := 2) sc_Lot_every.nd rfl (by first | exact Or.inl rfl | exact Or.inr rfl))) (fun _ _ _ _ _ => pts_nil) (fun _ _ _ _ _ => (pe_tup (pa_cons pe_int (pa_cons (pv 2) (pa_cons pe_int pa_nil)))))) pa_nil)))))))
/-! Lot.only -/
abbrev N_Lot_only : List Str := ["cls", "texts", "text", "parts", "numbers", "moves", "part", "size", "number"]
def t_Lot_only (K : Frg) (E : XK) : TS :=
  (tSeq (tIfS (tTest (tOp (rEqA K) (tCB (rLenA K) (tCons (tVar 1) tNil)) (tC (.int 0)))) (tRaise (tMkX0 (He.ga K "BadLot")) (W0 E)) tNext) (tSeq (tFor (iTup K (tVar 1)) (gName 2) (tDrop (tCallSD (sp_check_text K) [] (WE (W0 E)) (tCons (tVar 2) tNil)))) (tSeq (tAsg (SetX.tSortSc2 SetX.memK K (iTup K (tVar 1)) (gName 2) tYes (iRng1 (tCons (tOp rAddA (tCB (rLenA K) (tCons (tVar 2) tNil)) (tC (.int 1))) tNil)) (gName 7) tYes (tSl (rSlA K) (tVar 2) tNoPart (tPart (tVar 7))) [2, 7] [7]) (gName 3)) (tSeq (tAsg (tSortLen K (tVar 3)) (gName 3)) (tSeq (tAsg (tDc (iEnum K (tCons (tVar 3) tNil)) (gTup K 2 (gCons (gName 8) (gCons (gName 6) gNil))) tYes (tVar 6) (tVar 8) [8, 6]) (gName 4)) (tSeq (tAsg (tLc (iList K (tVar 3)) (gName 6) (tTest (tOp (rNeA K) (tVar 6) (tC (.str "")))) (tTup (tCons (tDGet (tVar 4) (tSl (rSlA K) (tVar 6) tNoPart (tPart (tUn rNegA (tC (.int 1)))))) (tCons (tOp (rIx K) (tVar 6) (tUn rNegA (tC (.int 1)))) (tCons (tDGet (tVar 4) (tVar 6)) tNil)))) [6]) (gName 5)) (tRet (tMakeV (He.ga K "Lot") (sp_Lot_init K) [] (WE (W0 E)) (tVar 0) (tCons (tCB (rLenA K) (tCons (tVar 3) tNil)) (tCons (tLc (iTup K (tVar 1)) (gName 2) tYes (tDGet (tVar 4) (tVar 2)) [2]) (tCons (tVar 5) tNil)))))))))))
def sp_Lot_only (K : Frg) : Sp := fun vs H Q E => vs.length = 2 ∧ t_Lot_only K E { nx := fun _ H' => Q .non H', rt := Q } (start N_Lot_only vs) H
theorem sc_Lot_only : FnScope N_Lot_only ["cls", "texts"] (defScope s_Lot_only) := ⟨rfl, rfl, rfl, by decide +kernel, rfl, by decide +kernel, by decide +kernel⟩
theorem ok_Lot_only (T : Txt PROG K mg) : ∃ fd, FnR PROG w K mg base (L2.CX PROG w) 4 (Rz.pC "Lot" "only" K) (spStar 1 (sp_Lot_only K)) ∧ FunD K "only" "Lot.only" (defArgs s_Lot_only) (defBody s_Lot_only) (defScope s_Lot_only) [] [] (Rz.pC "Lot" "only" K) fd := by
  obtain ⟨fd_check_text, G_check_text, D_check_text⟩ := ok_check_text (w := w) (base := base) T
  obtain ⟨fd_Lot_init, G_Lot_init, D_Lot_init⟩ := ok_Lot_init (w := w) (base := base) T
  have b_check_text_1 : Binds K fd_check_text _ [] := D_check_text.bindsN (ps := ["text"]) (fun _ _ _ _ _ _ us hl => match us, hl with | [_], _ => rfl)
  have b_Lot_init_4 : Binds K fd_Lot_init _ [] := D_Lot_init.bindsN (ps := ["self", "states", "last", "moves"]) (fun _ _ _ _ _ _ us hl => match us, hl with | [_, _, _, _], _ => rfl)
  obtain ⟨fd, F⟩ := T.F_Lot_only
  refine ⟨fd, F.okStar (ps := ["cls"]) (pv := "texts") sc_Lot_only StX.cxUp (fun _ _ _ _ _ _ us rest hl => match us, hl, rest with | [_], _, [] => rfl | [_], _, _ :: _ => rfl) (fun cdv A outer s H vs Q E hr h => ⟨t_Lot_only K E, ?_, h.2⟩), F⟩
  exact (pss_cons (ps_if (pt_cmpR (op_eqA hr) (pe_callB c_len rfl T.f_len (by decide +kernel) (pa_cons (pv 1) pa_nil)) pe_int (nomark _)) (pss_one (ps_raise rfl (takes_of rfl rfl rfl rfl) (pmk_sup0 T.x_BadLot T.f_super hr rfl T.g_BadLot))) pss_nil) (pss_cons (ps_for (passes_of rfl) rfl (pi_tup (pv 1)) (pg_name (i := 2) sc_Lot_only.nd rfl (by first | exact Or.inl rfl | exact Or.inr rfl)) (pss_one (ps_expr (pe_callSD G_check_text (hr.mono (by decide)) rfl T.g_check_text D_check_text.kp b_check_text_1 .nil (fun σ => passAt (takes_of rfl rfl rfl rfl) σ) (pa_cons (pv 2) pa_nil))))) (pss_cons (ps_set (i := 3) sc_Lot_only.nd rfl (by first | exact Or.inl rfl | exact Or.inr rfl) (SetX.pe_sortSc2 (SetX.kitK _ _) (own := [("text", 2), ("size", 7)]) (vs1 := [7]) rfl sc_Lot_only.nd hr.units rfl T.f_sorted (pi_tup (pv 1)) (blkOk_by (own := [("text", 2), ("size", 7)]) (N := N_Lot_only) (sc := defScope s_Lot_only) (by decide +kernel)) (by decide) (fun _ _ _ _ _ => (pg_name (i := 2) sc_Lot_only.nd rfl (by first | exact Or.inl rfl | exact Or.inr rfl))) (fun _ _ _ _ _ => pts_nil) (fun _ _ _ _ _ => (pi_range1 rfl T.f_range (pa_cons (pe_op op_addA (pe_callB c_len rfl T.f_len (by decide +kernel) (pa_cons (pv 2) pa_nil)) pe_int) pa_nil))) (fun _ _ _ _ _ => (pg_name (i := 7) sc_Lot_only.nd rfl (by first | exact Or.inl rfl | exact Or.inr rfl))) (fun _ _ _ _ _ => pts_nil) (fun _ _ _ _ _ => (pe_slice sl_A (pv 2) po_none (po_some (pv 7)))))) (pss_cons (ps_set (i := 3) sc_Lot_only.nd rfl (by first | exact Or.inl rfl | exact Or.inr rfl) (pe_sortLen hr.units rfl T.f_sorted rfl T.f_len (pv 3))) (pss_cons (ps_set (i := 4) sc_Lot_only.nd rfl (by first | exact Or.inl rfl | exact Or.inr rfl) (pe_dc (own := [("number", 8), ("part", 6)]) rfl sc_Lot_only.nd (pi_enum rfl T.f_enumerate (pa_cons (pv 3) pa_nil)) (blkOk_by (own := [("number", 8), ("part", 6)]) (N := N_Lot_only) (sc := defScope s_Lot_only) (by decide +kernel)) (fun _ _ _ _ _ => (pg_tup rfl (pgs_cons (pg_name (i := 8) sc_Lot_only.nd rfl (by first | exact Or.inl rfl | exact Or.inr rfl)) (pgs_cons (pg_name (i := 6) sc_Lot_only.nd rfl (by first | exact Or.inl rfl | exact Or.inr rfl)) pgs_nil)))) (fun _ _ _ _ _ => pts_nil) (fun _ _ _ _ _ => (pv 6)) (fun _ _ _ _ _ => (pv 8)))) (pss_cons (by first | (refine ps_setLc (i := 5) (own := [("part", 6)]) rfl sc_Lot_only.nd rfl rfl ?e ?f ?g ?h ?i ?j; (case e => exact sw_true rfl rfl rfl (by decide +kernel)); (case f => exact (pi_list (pv 3))); (case g => exact (blkOk_by (own := [("part", 6)]) (N := N_Lot_only) (sc := defScope s_Lot_only) (by decide +kernel))); (case h => exact (fun _ _ _ _ _ => (pg_name (i := 6) sc_Lot_only.nd rfl (by first | exact Or.inl rfl | exact Or.inr rfl)))); (case i => exact (fun _ _ _ _ _ => (pts_one (pt_cmpR (op_neA hr) (pv 6) pe_str (nomark _))))); (case j => exact (fun _ _ _ _ _ => (pe_tup (pa_cons (pe_dget (Room.u1 hr) (pv 4) (pe_slice sl_A (pv 6) po_none (po_some (pe_un un_neg pe_int))) (fun _ _ => rfl)) (pa_cons (pe_ix ix_seq (pv 6) (pe_un un_neg pe_int) (fun _ _ => rfl)) (pa_cons (pe_dget (Room.u1 hr) (pv 4) (pv 6) (fun _ _ => rfl)) pa_nil))))))) | exact (ps_set (i := 5) sc_Lot_only.nd rfl (by first | exact Or.inl rfl | exact Or.inr rfl) (pe_lc (own := [("part", 6)]) rfl sc_Lot_only.nd (pi_list (pv 3)) (blkOk_by (own := [("part", 6)]) (N := N_Lot_only) (sc := defScope s_Lot_only) (by decide +kernel)) (fun _ _ _ _ _ => (pg_name (i := 6) sc_Lot_only.nd rfl (by first | exact Or.inl rfl | exact Or.inr rfl))) (fun _ _ _ _ _ => (pts_one (pt_cmpR (op_neA hr) (pv 6) pe_str (nomark _)))) (fun _ _ _ _ _ => (pe_tup (pa_cons (pe_dget (Room.u1 hr) (pv 4) (pe_slice sl_A (pv 6) po_none (po_some (pe_un un_neg pe_int))) (fun _ _ => rfl)) (pa_cons (pe_ix ix_seq (pv 6) (pe_un un_neg pe_int) (fun _ _ => rfl)) (pa_cons (pe_dget (Room.u1 hr) (pv 4) (pv 6) (fun _ _ => rfl)) pa_nil)))))))) (pss_one (ps_ret (pe_makeV (pv 0) T.mk_Lot G_Lot_init (hr.mono (by decide)) b_Lot_init_4 .nil (fun σ => passAt (takes_of rfl rfl rfl rfl) σ) (pa_cons (pe_callB c_len rfl T.f_len (by decide +kernel) (pa_cons (pv 3) pa_nil)) (pa_cons (pe_lc (own := [("text", 2)]) rfl sc_Lot_only.nd (pi_tup (pv 1)) (blkOk_by (own := [("text", 2)]) (N := N_Lot_only) (sc := defScope s_Lot_only) (by decide +kernel)) (fun _ _ _ _ _ => (pg_name (i := 2) sc_Lot_only.nd rfl (by first | exact Or.inl rfl | exact Or.inr rfl))) (fun _ _ _ _ _ => pts_nil) (fun _ _ _ _ _ => (pe_dget (Room.u1 hr) (pv 4) (pv 2) (fun _ _ => rfl)))) (pa_cons (pv 5) pa_nil))))))))))))
/-! _law_named -/
abbrev N_law_named : List Str := ["_law_kind", "_law_text", "e", "_law_made"]
def t_law_named (K : Frg) (E : XK) : TS :=
  (tSeq (tTry K (W0 E) (fun W => (tIfS (tTest (tOp (rEqA K) (tVar 0) (tC (.int 0)))) (tAsg (tCMS (He.ga K "Lot") (sp_Lot_every K) (WE W) (tC (.ref (He.ga K "Lot"))) (tCons (tVar 1) tNil)) (gName 3)) (tIfS (tTest (tOp (rEqA K) (tVar 0) (tC (.int 1)))) (tAsg (tCMS (He.ga K "Lot") (spStar 1 (sp_Lot_only K)) (WE W) (tC (.ref (He.ga K "Lot"))) (tCons (tVar 1) tNil)) (gName 3)) (tIfS (tTest (tOp (rEqA K) (tVar 0) (tC (.int 2)))) (tAsg (tCMS (He.ga K "Lot") (spStar 1 (sp_Lot_only K)) (WE W) (tC (.ref (He.ga K "Lot"))) (tCons (tC (.str "ab")) (tCons (tVar 1) (tCons (tC (.str "c")) (tCons (tOp rAddA (tVar 1) (tC (.str "Z"))) tNil))))) (gName 3)) (tIfS (tTest (tOp (rEqA K) (tVar 0) (tC (.int 4)))) (tAsg (tCMS (He.ga K "Lot") (spStar 1 (sp_Lot_only K)) (WE W) (tC (.ref (He.ga K "Lot"))) (tCons (tOp rMulA (tC (.str "y")) (tC (.int 41))) (tCons (tC (.str "")) (tCons (tVar 1) tNil)))) (gName 3)) (tIfS (tTest (tOp (rEqA K) (tVar 0) (tC (.int 5)))) (tAsg (tCMS (He.ga K "Lot") (spStar 1 (sp_Lot_only K)) (WE W) (tC (.ref (He.ga K "Lot"))) (tCons (tOp rMulA (tC (.str "y")) (tC (.int 20))) (tCons (tOp rMulA (tC (.str "z")) (tC (.int 20))) (tCons (tVar 1) tNil)))) (gName 3)) (tAsg (tCMS (He.ga K "Lot") (spStar 1 (sp_Lot_only K)) (WE W) (tC (.ref (He.ga K "Lot"))) tNil) (gName 3)))))))) [⟨.ref (He.ga K "BadSign"), some 2, fun a cls d => (tRet (tTup (tCons (tC (.str "sign")) (tCons (tXf a cls d (He.ga K "BadSign") "at" (tVar 2)) tNil))))⟩, ⟨.ref (He.ga K "BadLot"), none, fun a cls d => (tRet (tTup (tCons (tC (.str "bad")) (tCons (tC (.int 0)) tNil))))⟩]) (tRet (tTup (tCons (tC (.str "lot")) (tCons (tProp (He.ga K "Lot") (sp_Lot_states K) [] E0 (tVar 3)) tNil)))))
def sp_law_named (K : Frg) : Sp := fun vs H Q E => vs.length = 2 ∧ t_law_named K E { nx := fun _ H' => Q .non H', rt := Q } (start N_law_named vs) H
theorem sc_law_named : FnScope N_law_named ["_law_kind", "_law_text"] (defScope s_law_named) := ⟨rfl, rfl, rfl, by decide +kernel, rfl, by decide +kernel, by decide +kernel⟩
theorem ok_law_named (T : Txt PROG K mg) : ∃ fd, FnOk PROG w K mg base (L2.CX PROG w) 5 (Rz.pG "_law_named" K) fd ["_law_kind", "_law_text"] (sp_law_named K) ∧ FunD K "_law_named" "_law_named" (defArgs s_law_named) (defBody s_law_named) (defScope s_law_named) [] [] (Rz.pG "_law_named" K) fd := by
  obtain ⟨fd_Lot_every, G_Lot_every, D_Lot_every⟩ := ok_Lot_every (w := w) (base := base) T
  obtain ⟨fd_Lot_only, G_Lot_only, D_Lot_only⟩ := ok_Lot_only (w := w) (base := base) T
  obtain ⟨fd_Lot_states, G_Lot_states, D_Lot_states⟩ := ok_Lot_states (w := w) (base := base) T
  have b_Lot_every_2 : Binds K fd_Lot_every _ [] := D_Lot_every.bindsN (ps := ["cls", "signs"]) (fun _ _ _ _ _ _ us hl => match us, hl with | [_, _], _ => rfl)
  have b_Lot_states_1 : Binds K fd_Lot_states _ [] := D_Lot_states.bindsN (ps := ["self"]) (fun _ _ _ _ _ _ us hl => match us, hl with | [_], _ => rfl)
  obtain ⟨fd, F⟩ := T.F_law_named
  refine ⟨fd, F.ok sc_law_named (fun vs H Q E h => h.1) (fun cdv A outer s H vs Q E hr h => ⟨t_law_named K E, ?_, h.2⟩), F⟩
  exact (pss_cons (ps_tryM rfl rfl sc_law_named.nd (takes_of rfl rfl rfl rfl) (fun W pn xe tk po => by exact (pss_one (ps_if (pt_cmpR (op_eqA hr) (pv 0) pe_int (nomark _)) (pss_one (ps_set (i := 3) sc_law_named.nd rfl (by first | exact Or.inl rfl | exact Or.inr rfl) (pe_cmS (pe_glob rfl T.g_Lot rfl) T.cm_Lot_every (G_Lot_every.rawN b_Lot_every_2) (hr.mono (by decide)) (fun σ => passAt tk σ) (pa_cons (pv 1) pa_nil)))) (pss_one (ps_if (pt_cmpR (op_eqA hr) (pv 0) pe_int (nomark _)) (pss_one (ps_set (i := 3) sc_law_named.nd rfl (by first | exact Or.inl rfl | exact Or.inr rfl) (pe_cmS (pe_glob rfl T.g_Lot rfl) T.cm_Lot_only G_Lot_only (hr.mono (by decide)) (fun σ => passAt tk σ) (pa_cons (pv 1) pa_nil)))) (pss_one (ps_if (pt_cmpR (op_eqA hr) (pv 0) pe_int (nomark _)) (pss_one (ps_set (i := 3) sc_law_named.nd rfl (by first | exact Or.inl rfl | exact Or.inr rfl) (pe_cmS (pe_glob rfl T.g_Lot rfl) T.cm_Lot_only G_Lot_only (hr.mono (by decide)) (fun σ => passAt tk σ) (pa_cons pe_str (pa_cons (pv 1) (pa_cons pe_str (pa_cons (pe_op op_addA (pv 1) pe_str) pa_nil))))))) (pss_one (ps_if (pt_cmpR (op_eqA hr) (pv 0) pe_int (nomark _)) (pss_one (ps_set (i := 3) sc_law_named.nd rfl (by first | exact Or.inl rfl | exact Or.inr rfl) (pe_cmS (pe_glob rfl T.g_Lot rfl) T.cm_Lot_only G_Lot_only (hr.mono (by decide)) (fun σ => passAt tk σ) (pa_cons (pe_op op_mulA pe_str pe_int) (pa_cons pe_str (pa_cons (pv 1) pa_nil)))))) (pss_one (ps_if (pt_cmpR (op_eqA hr) (pv 0) pe_int (nomark _)) (pss_one (ps_set (i := 3) sc_law_named.nd rfl (by first | exact Or.inl rfl | exact Or.inr rfl) (pe_cmS (pe_glob rfl T.g_Lot rfl) T.cm_Lot_only G_Lot_only (hr.mono (by decide)) (fun σ => passAt tk σ) (pa_cons (pe_op op_mulA pe_str pe_int) (pa_cons (pe_op op_mulA pe_str pe_int) (pa_cons (pv 1) pa_nil)))))) (pss_one (ps_set (i := 3) sc_law_named.nd rfl (by first | exact Or.inl rfl | exact Or.inr rfl) (pe_cmS0 (pe_glob rfl T.g_Lot rfl) T.cm_Lot_only G_Lot_only (hr.mono (by decide)) (fun σ => passAt tk σ))))))))))))))) (HdsMix.consA (i := 2) rfl rfl ⟨rfl, by decide, Or.inl T.g_BadSign⟩ (fun a oe cls d pn hz hf => by exact (pss_one (ps_ret (pe_tup (pa_cons pe_str (pa_cons (pe_xf (T.xb_BadSign).2 T.n_BadSign_at hz hf (pv 2)) pa_nil)))))) (HdsMix.cons ⟨rfl, by decide, Or.inl T.g_BadLot⟩ (fun a oe cls d pn hz hf => by exact (pss_one (ps_ret (pe_tup (pa_cons pe_str (pa_cons pe_int pa_nil)))))) HdsMix.nil))) (pss_one (ps_ret (pe_tup (pa_cons pe_str (pa_cons (pe_prop (pv 3) T.c_Lot T.p_Lot_states G_Lot_states (hr.mono (by decide)) b_Lot_states_1 .nil passL rfl) pa_nil))))))
/-! law -/
abbrev N_law : List Str := ["_law_script", "_law_draws", "_law_signs", "_law_parts", "_law_kind", "_law_k", "_law_due", "_law_passed", "_law_told", "_law_text", "_law_at", "_law_size", "_law_many"]
def t_law (K : Frg) (E : XK) : TS :=
  (tSeq (tAsg (tCallSD (sp_law_pool K) [] (WE (W0 E)) (tCons (tVar 0) tNil)) (gName 1)) (tSeq (tAsg (tCallSD (sp_law_alphabet K) [] (WE (W0 E)) (tCons (tVar 1) (tCons (tC (.int 3)) tNil))) (gName 2)) (tSeq (tAsg (tCallSD (sp_law_lot_of K) [] (WE (W0 E)) (tCons (tVar 1) (tCons (tVar 2) tNil))) (gName 3)) (tSeq (tAsg (tCallSD (sp_law_pick K) [] (WE (W0 E)) (tCons (tVar 1) (tCons (tC (.int 3)) tNil))) (gName 4)) (tSeq (tIfS (tTest (tOp (rEqA K) (tVar 4) (tC (.int 1)))) (tAsg (tCallSD (sp_law_raw K) [] (WE (W0 E)) (tCons (tVar 1) (tCons (tVar 2) tNil))) (gName 3)) tNext) (tSeq (tIfS (tTest (tOp (rEqA K) (tVar 4) (tC (.int 2)))) (tSeq (tAsg (tOp rAddA (tC (.int 38)) (tCallSD (sp_law_pick K) [] (WE (W0 E)) (tCons (tVar 1) (tCons (tC (.int 5)) tNil)))) (gName 12)) (tAsg (tTup (tCons (tVar 12) (tCons (tLst (tCons (tOp rSubA (tVar 12) (tC (.int 1))) tNil)) (tCons (tLc (iRng1 (tCons (tOp rSubA (tVar 12) (tC (.int 1))) tNil)) (gName 5) tYes (tTup (tCons (tVar 5) (tCons (tOp (rIx K) (tVar 2) (tCallSD (sp_law_pick K) [] (WE WN) (tCons (tVar 1) (tCons (tC (.int 3)) tNil)))) (tCons (tOp rAddA (tVar 5) (tC (.int 1))) tNil)))) [5]) tNil)))) (gName 3))) tNext) (tSeq (tFor (iRng1 (tCons (tCallSD (sp_law_pick K) [] (WE (W0 E)) (tCons (tVar 1) (tCons (tC (.int 3)) tNil))) tNil)) (gName 5) (tAsg (tIf (tTest (tOp rGeA (tOp (rIx K) (tVar 3) (tC (.int 0))) (tC (.int 1)))) (tCallSD (sp_law_spoilt K) [] (WE (W0 E)) (tCons (tVar 1) (tCons (tVar 3) (tCons (tVar 2) tNil)))) (tVar 3)) (gName 3))) (tSeq (tAsg (tCallSD (sp_law_due_of K) [] (WE (W0 E)) (tCons (tOp (rIx K) (tVar 3) (tC (.int 0))) (tCons (tOp (rIx K) (tVar 3) (tC (.int 1))) (tCons (tOp (rIx K) (tVar 3) (tC (.int 2))) tNil)))) (gName 6)) (tSeq (tAsg (tTup (tCons (tCB (rListA K) (tCons (tOp (rIx K) (tVar 3) (tC (.int 1))) tNil)) (tCons (tCB (rListA K) (tCons (tOp (rIx K) (tVar 3) (tC (.int 2))) tNil)) tNil))) (gName 7)) (tSeq (tAsg (tCallSD (sp_law_try_make K) [] (WE (W0 E)) (tCons (tOp (rIx K) (tVar 3) (tC (.int 0))) (tCons (tOp (rIx K) (tVar 7) (tC (.int 0))) (tCons (tOp (rIx K) (tVar 7) (tC (.int 1))) tNil)))) (gName 8)) (tSeq (tIfS (tOr (tTest (tOp (rNeA K) (tVar 8) (tVar 6))) (tOr (tNot (tB (tCallSD (sp_law_is_int K) [] (WE (W0 E)) (tCons (tOp (rIx K) (tVar 8) (tC (.int 1))) tNil)))) (tTest (tOp (rNeA K) (tVar 7) (tTup (tCons (tOp (rIx K) (tVar 3) (tC (.int 1))) (tCons (tOp (rIx K) (tVar 3) (tC (.int 2))) tNil))))))) (tRet (tC (.bl false))) tNext) (tSeq (tAsg (tCallSD (sp_law_word_of K) [] (WE (W0 E)) (tCons (tVar 1) (tCons (tVar 2) (tCons (tC (.int 0)) (tCons (tC (.int 5)) tNil))))) (gName 9)) (tSeq (tAsg (tCallSD (sp_law_pick K) [] (WE (W0 E)) (tCons (tVar 1) (tCons (tOp rAddA (tCB (rLenA K) (tCons (tVar 9) tNil)) (tC (.int 1))) tNil))) (gName 10)) (tSeq (tAsg (tOp rAddA (tOp rAddA (tSl (rSlA K) (tVar 9) tNoPart (tPart (tVar 10))) (tCallSD (sp_law_odd_sign K) [] (WE (W0 E)) (tCons (tVar 1) tNil))) (tSl (rSlA K) (tVar 9) (tPart (tVar 10)) tNoPart)) (gName 9)) (tSeq (tFor (iList K (tLst (tCons (tC (.int 0)) (tCons (tC (.int 1)) (tCons (tC (.int 2)) (tCons (tC (.int 4)) (tCons (tC (.int 5)) tNil))))))) (gName 5) (tIfS (tTest (tOp (rNeA K) (tCallSD (sp_law_named K) [] (WE (W0 E)) (tCons (tVar 5) (tCons (tVar 9) tNil))) (tTup (tCons (tC (.str "sign")) (tCons (tVar 10) tNil))))) (tRet (tC (.bl false))) tNext)) (tSeq (tIfS (tOr (tTest (tOp (rNeA K) (tCallSD (sp_law_named K) [] (WE (W0 E)) (tCons (tC (.int 5)) (tCons (tC (.str "yy")) tNil))) (tTup (tCons (tC (.str "bad")) (tCons (tC (.int 0)) tNil))))) (tTest (tOp (rNeA K) (tCallSD (sp_law_named K) [] (WE (W0 E)) (tCons (tC (.int 5)) (tCons (tC (.str "zA")) tNil))) (tTup (tCons (tC (.str "sign")) (tCons (tC (.int 1)) tNil)))))) (tRet (tC (.bl false))) tNext) (tSeq (tAsg (tOp rAddA (tC (.int 38)) (tCallSD (sp_law_pick K) [] (WE (W0 E)) (tCons (tVar 1) (tCons (tC (.int 4)) tNil)))) (gName 11)) (tSeq (tAsg (tIf (tTest (tOp rLtA (tVar 11) (tC (.int 40)))) (tTup (tCons (tC (.str "lot")) (tCons (tOp rAddA (tVar 11) (tC (.int 1))) tNil))) (tTup (tCons (tC (.str "bad")) (tCons (tC (.int 0)) tNil)))) (gName 6)) (tSeq (tIfS (tOr (tTest (tOp (rNeA K) (tCallSD (sp_law_named K) [] (WE (W0 E)) (tCons (tC (.int 1)) (tCons (tOp rMulA (tOp (rIx K) (tVar 2) (tC (.int 0))) (tVar 11)) tNil))) (tVar 6))) (tTest (tOp (rNeA K) (tCallSD (sp_law_named K) [] (WE (W0 E)) (tCons (tC (.int 0)) (tCons (tVar 2) tNil))) (tTup (tCons (tC (.str "lot")) (tCons (tC (.int 1)) tNil)))))) (tRet (tC (.bl false))) tNext) (tRet (tAndV (tOp (rEqA K) (tCallSD (sp_law_named K) [] (WE (W0 E)) (tCons (tC (.int 3)) (tCons (tC (.str "")) tNil))) (tTup (tCons (tC (.str "bad")) (tCons (tC (.int 0)) tNil)))) (tOp (rEqA K) (tCallSD (sp_law_named K) [] (WE (W0 E)) (tCons (tC (.int 0)) (tCons (tOp rMulA (tOp (rIx K) (tVar 2) (tC (.int 0))) (tVar 11)) tNil))) (tTup (tCons (tC (.str "lot")) (tCons (tC (.int 1)) tNil)))))))))))))))))))))))))
def sp_law (K : Frg) : Sp := fun vs H Q E => vs.length = 1 ∧ t_law K E { nx := fun _ H' => Q .non H', rt := Q } (start N_law vs) H
theorem sc_law : FnScope N_law ["_law_script"] (defScope s_law) := ⟨rfl, rfl, rfl, by decide +kernel, rfl, by decide +kernel, by decide +kernel⟩
theorem ok_law (T : Txt PROG K mg) : ∃ fd, FnOk PROG w K mg base (L2.CX PROG w) 6 (Rz.pG "law" K) fd ["_law_script"] (sp_law K) ∧ FunD K "law" "law" (defArgs s_law) (defBody s_law) (defScope s_law) [] [] (Rz.pG "law" K) fd := by
  obtain ⟨fd_law_pool, G_law_pool, D_law_pool⟩ := ok_law_pool (w := w) (base := base) T
  obtain ⟨fd_law_alphabet, G_law_alphabet, D_law_alphabet⟩ := ok_law_alphabet (w := w) (base := base) T
  obtain ⟨fd_law_lot_of, G_law_lot_of, D_law_lot_of⟩ := ok_law_lot_of (w := w) (base := base) T
  obtain ⟨fd_law_pick, G_law_pick, D_law_pick⟩ := ok_law_pick (w := w) (base := base) T
  obtain ⟨fd_law_raw, G_law_raw, D_law_raw⟩ := ok_law_raw (w := w) (base := base) T
  obtain ⟨fd_law_spoilt, G_law_spoilt, D_law_spoilt⟩ := ok_law_spoilt (w := w) (base := base) T
  obtain ⟨fd_law_due_of, G_law_due_of, D_law_due_of⟩ := ok_law_due_of (w := w) (base := base) T
  obtain ⟨fd_law_try_make, G_law_try_make, D_law_try_make⟩ := ok_law_try_make (w := w) (base := base) T
  obtain ⟨fd_law_is_int, G_law_is_int, D_law_is_int⟩ := ok_law_is_int (w := w) (base := base) T
  obtain ⟨fd_law_word_of, G_law_word_of, D_law_word_of⟩ := ok_law_word_of (w := w) (base := base) T
  obtain ⟨fd_law_odd_sign, G_law_odd_sign, D_law_odd_sign⟩ := ok_law_odd_sign (w := w) (base := base) T
  obtain ⟨fd_law_named, G_law_named, D_law_named⟩ := ok_law_named (w := w) (base := base) T
  have b_law_pool_1 : Binds K fd_law_pool _ [] := D_law_pool.bindsN (ps := ["_law_script"]) (fun _ _ _ _ _ _ us hl => match us, hl with | [_], _ => rfl)
  have b_law_alphabet_2 : Binds K fd_law_alphabet _ [] := D_law_alphabet.bindsN (ps := ["_law_draws", "_law_many"]) (fun _ _ _ _ _ _ us hl => match us, hl with | [_, _], _ => rfl)
  have b_law_lot_of_2 : Binds K fd_law_lot_of _ [] := D_law_lot_of.bindsN (ps := ["_law_draws", "_law_signs"]) (fun _ _ _ _ _ _ us hl => match us, hl with | [_, _], _ => rfl)
  have b_law_pick_2 : Binds K fd_law_pick _ [] := D_law_pick.bindsN (ps := ["_law_draws", "_law_many"]) (fun _ _ _ _ _ _ us hl => match us, hl with | [_, _], _ => rfl)
  have b_law_raw_2 : Binds K fd_law_raw _ [] := D_law_raw.bindsN (ps := ["_law_draws", "_law_signs"]) (fun _ _ _ _ _ _ us hl => match us, hl with | [_, _], _ => rfl)
  have b_law_spoilt_3 : Binds K fd_law_spoilt _ [] := D_law_spoilt.bindsN (ps := ["_law_draws", "_law_parts", "_law_signs"]) (fun _ _ _ _ _ _ us hl => match us, hl with | [_, _, _], _ => rfl)
  have b_law_due_of_3 : Binds K fd_law_due_of _ [] := D_law_due_of.bindsN (ps := ["_law_many", "_law_last", "_law_moves"]) (fun _ _ _ _ _ _ us hl => match us, hl with | [_, _, _], _ => rfl)
  have b_law_try_make_3 : Binds K fd_law_try_make _ [] := D_law_try_make.bindsN (ps := ["_law_many", "_law_last", "_law_moves"]) (fun _ _ _ _ _ _ us hl => match us, hl with | [_, _, _], _ => rfl)
  have b_law_is_int_1 : Binds K fd_law_is_int _ [] := D_law_is_int.bindsN (ps := ["_law_value"]) (fun _ _ _ _ _ _ us hl => match us, hl with | [_], _ => rfl)
  have b_law_word_of_4 : Binds K fd_law_word_of _ [] := D_law_word_of.bindsN (ps := ["_law_draws", "_law_signs", "_law_least", "_law_greatest"]) (fun _ _ _ _ _ _ us hl => match us, hl with | [_, _, _, _], _ => rfl)
  have b_law_odd_sign_1 : Binds K fd_law_odd_sign _ [] := D_law_odd_sign.bindsN (ps := ["_law_draws"]) (fun _ _ _ _ _ _ us hl => match us, hl with | [_], _ => rfl)
  have b_law_named_2 : Binds K fd_law_named _ [] := D_law_named.bindsN (ps := ["_law_kind", "_law_text"]) (fun _ _ _ _ _ _ us hl => match us, hl with | [_, _], _ => rfl)
  obtain ⟨fd, F⟩ := T.F_law
  refine ⟨fd, F.ok sc_law (fun vs H Q E h => h.1) (fun cdv A outer s H vs Q E hr h => ⟨t_law K E, ?_, h.2⟩), F⟩
  exact (pss_cons (ps_set (i := 1) sc_law.nd rfl (by first | exact Or.inl rfl | exact Or.inr rfl) (pe_callSD G_law_pool (hr.mono (by decide)) rfl T.g__law_pool D_law_pool.kp b_law_pool_1 .nil (fun σ => passAt (takes_of rfl rfl rfl rfl) σ) (pa_cons (pv 0) pa_nil))) (pss_cons (ps_set (i := 2) sc_law.nd rfl (by first | exact Or.inl rfl | exact Or.inr rfl) (pe_callSD G_law_alphabet (hr.mono (by decide)) rfl T.g__law_alphabet D_law_alphabet.kp b_law_alphabet_2 .nil (fun σ => passAt (takes_of rfl rfl rfl rfl) σ) (pa_cons (pv 1) (pa_cons pe_int pa_nil)))) (pss_cons (ps_set (i := 3) sc_law.nd rfl (by first | exact Or.inl rfl | exact Or.inr rfl) (pe_callSD G_law_lot_of (hr.mono (by decide)) rfl T.g__law_lot_of D_law_lot_of.kp b_law_lot_of_2 .nil (fun σ => passAt (takes_of rfl rfl rfl rfl) σ) (pa_cons (pv 1) (pa_cons (pv 2) pa_nil)))) (pss_cons (ps_set (i := 4) sc_law.nd rfl (by first | exact Or.inl rfl | exact Or.inr rfl) (pe_callSD G_law_pick (hr.mono (by decide)) rfl T.g__law_pick D_law_pick.kp b_law_pick_2 .nil (fun σ => passAt (takes_of rfl rfl rfl rfl) σ) (pa_cons (pv 1) (pa_cons pe_int pa_nil)))) (pss_cons (ps_if (pt_cmpR (op_eqA hr) (pv 4) pe_int (nomark _)) (pss_one (ps_set (i := 3) sc_law.nd rfl (by first | exact Or.inl rfl | exact Or.inr rfl) (pe_callSD G_law_raw (hr.mono (by decide)) rfl T.g__law_raw D_law_raw.kp b_law_raw_2 .nil (fun σ => passAt (takes_of rfl rfl rfl rfl) σ) (pa_cons (pv 1) (pa_cons (pv 2) pa_nil))))) pss_nil) (pss_cons (ps_if (pt_cmpR (op_eqA hr) (pv 4) pe_int (nomark _)) (pss_cons (ps_set (i := 12) sc_law.nd rfl (by first | exact Or.inl rfl | exact Or.inr rfl) (pe_op op_addA pe_int (pe_callSD G_law_pick (hr.mono (by decide)) rfl T.g__law_pick D_law_pick.kp b_law_pick_2 .nil (fun σ => passAt (takes_of rfl rfl rfl rfl) σ) (pa_cons (pv 1) (pa_cons pe_int pa_nil))))) (pss_one (ps_set (i := 3) sc_law.nd rfl (by first | exact Or.inl rfl | exact Or.inr rfl) (pe_tup (pa_cons (pv 12) (pa_cons (pe_lst (pa_cons (pe_op op_subA (pv 12) pe_int) pa_nil)) (pa_cons (pe_lc (own := [("_law_k", 5)]) rfl sc_law.nd (pi_range1 rfl T.f_range (pa_cons (pe_op op_subA (pv 12) pe_int) pa_nil)) (blkOk_by (own := [("_law_k", 5)]) (N := N_law) (sc := defScope s_law) (by decide +kernel)) (fun _ _ _ _ _ => (pg_name (i := 5) sc_law.nd rfl (by first | exact Or.inl rfl | exact Or.inr rfl))) (fun _ _ _ _ _ => pts_nil) (fun _ _ _ _ _ => (pe_tup (pa_cons (pv 5) (pa_cons (pe_ix ix_seq (pv 2) (pe_callSD G_law_pick (hr.mono (by decide)) rfl T.g__law_pick D_law_pick.kp b_law_pick_2 .nil (fun σ => passAt takes0 σ) (pa_cons (pv 1) (pa_cons pe_int pa_nil))) (fun _ _ => rfl)) (pa_cons (pe_op op_addA (pv 5) pe_int) pa_nil)))))) pa_nil))))))) pss_nil) (pss_cons (ps_for (passes_of rfl) rfl (pi_range1 rfl T.f_range (pa_cons (pe_callSD G_law_pick (hr.mono (by decide)) rfl T.g__law_pick D_law_pick.kp b_law_pick_2 .nil (fun σ => passAt (takes_of rfl rfl rfl rfl) σ) (pa_cons (pv 1) (pa_cons pe_int pa_nil))) pa_nil)) (pg_name (i := 5) sc_law.nd rfl (by first | exact Or.inl rfl | exact Or.inr rfl)) (pss_one (ps_set (i := 3) sc_law.nd rfl (by first | exact Or.inl rfl | exact Or.inr rfl) (pe_ifExp (pt_cmpR op_geA (pe_ix ix_seq (pv 3) pe_int (fun _ _ => rfl)) pe_int (nomark _)) (pe_callSD G_law_spoilt (hr.mono (by decide)) rfl T.g__law_spoilt D_law_spoilt.kp b_law_spoilt_3 .nil (fun σ => passAt (takes_of rfl rfl rfl rfl) σ) (pa_cons (pv 1) (pa_cons (pv 3) (pa_cons (pv 2) pa_nil)))) (pv 3))))) (pss_cons (ps_set (i := 6) sc_law.nd rfl (by first | exact Or.inl rfl | exact Or.inr rfl) (pe_callSD G_law_due_of (hr.mono (by decide)) rfl T.g__law_due_of D_law_due_of.kp b_law_due_of_3 .nil (fun σ => passAt (takes_of rfl rfl rfl rfl) σ) (pa_cons (pe_ix ix_seq (pv 3) pe_int (fun _ _ => rfl)) (pa_cons (pe_ix ix_seq (pv 3) pe_int (fun _ _ => rfl)) (pa_cons (pe_ix ix_seq (pv 3) pe_int (fun _ _ => rfl)) pa_nil))))) (pss_cons (ps_set (i := 7) sc_law.nd rfl (by first | exact Or.inl rfl | exact Or.inr rfl) (pe_tup (pa_cons (pe_callTy c_list rfl T.f_list (by decide +kernel) (pa_cons (pe_ix ix_seq (pv 3) pe_int (fun _ _ => rfl)) pa_nil)) (pa_cons (pe_callTy c_list rfl T.f_list (by decide +kernel) (pa_cons (pe_ix ix_seq (pv 3) pe_int (fun _ _ => rfl)) pa_nil)) pa_nil)))) (pss_cons (ps_set (i := 8) sc_law.nd rfl (by first | exact Or.inl rfl | exact Or.inr rfl) (pe_callSD G_law_try_make (hr.mono (by decide)) rfl T.g__law_try_make D_law_try_make.kp b_law_try_make_3 .nil (fun σ => passAt (takes_of rfl rfl rfl rfl) σ) (pa_cons (pe_ix ix_seq (pv 3) pe_int (fun _ _ => rfl)) (pa_cons (pe_ix ix_seq (pv 7) pe_int (fun _ _ => rfl)) (pa_cons (pe_ix ix_seq (pv 7) pe_int (fun _ _ => rfl)) pa_nil))))) (pss_cons (ps_if (PW.pt (pw_or (pt_cmpR (op_neA hr) (pv 8) (pv 6) (nomark _)) (pw_or (pt_not (pt_val (pe_callSD G_law_is_int (hr.mono (by decide)) rfl T.g__law_is_int D_law_is_int.kp b_law_is_int_1 .nil (fun σ => passAt (takes_of rfl rfl rfl rfl) σ) (pa_cons (pe_ix ix_seq (pv 8) pe_int (fun _ _ => rfl)) pa_nil)))) (pw_or1 (pt_cmpR (op_neA hr) (pv 7) (pe_tup (pa_cons (pe_ix ix_seq (pv 3) pe_int (fun _ _ => rfl)) (pa_cons (pe_ix ix_seq (pv 3) pe_int (fun _ _ => rfl)) pa_nil))) (nomark _)))))) (pss_one (ps_ret pe_bl)) pss_nil) (pss_cons (ps_set (i := 9) sc_law.nd rfl (by first | exact Or.inl rfl | exact Or.inr rfl) (pe_callSD G_law_word_of (hr.mono (by decide)) rfl T.g__law_word_of D_law_word_of.kp b_law_word_of_4 .nil (fun σ => passAt (takes_of rfl rfl rfl rfl) σ) (pa_cons (pv 1) (pa_cons (pv 2) (pa_cons pe_int (pa_cons pe_int pa_nil)))))) (pss_cons (ps_set (i := 10) sc_law.nd rfl (by first | exact Or.inl rfl | exact Or.inr rfl) (pe_callSD G_law_pick (hr.mono (by decide)) rfl T.g__law_pick D_law_pick.kp b_law_pick_2 .nil (fun σ => passAt (takes_of rfl rfl rfl rfl) σ) (pa_cons (pv 1) (pa_cons (pe_op op_addA (pe_callB c_len rfl T.f_len (by decide +kernel) (pa_cons (pv 9) pa_nil)) pe_int) pa_nil)))) (pss_cons (ps_set (i := 9) sc_law.nd rfl (by first | exact Or.inl rfl | exact Or.inr rfl) (pe_op op_addA (pe_op op_addA (pe_slice sl_A (pv 9) po_none (po_some (pv 10))) (pe_callSD G_law_odd_sign (hr.mono (by decide)) rfl T.g__law_odd_sign D_law_odd_sign.kp b_law_odd_sign_1 .nil (fun σ => passAt (takes_of rfl rfl rfl rfl) σ) (pa_cons (pv 1) pa_nil))) (pe_slice sl_A (pv 9) (po_some (pv 10)) po_none))) (pss_cons (ps_for (passes_of rfl) rfl (pi_list (pe_lst (pa_cons pe_int (pa_cons pe_int (pa_cons pe_int (pa_cons pe_int (pa_cons pe_int pa_nil))))))) (pg_name (i := 5) sc_law.nd rfl (by first | exact Or.inl rfl | exact Or.inr rfl)) (pss_one (ps_if (pt_cmpR (op_neA hr) (pe_callSD G_law_named (hr.mono (by decide)) rfl T.g__law_named D_law_named.kp b_law_named_2 .nil (fun σ => passAt (takes_of rfl rfl rfl rfl) σ) (pa_cons (pv 5) (pa_cons (pv 9) pa_nil))) (pe_tup (pa_cons pe_str (pa_cons (pv 10) pa_nil))) (nomark _)) (pss_one (ps_ret pe_bl)) pss_nil))) (pss_cons (ps_if (PW.pt (pw_or (pt_cmpR (op_neA hr) (pe_callSD G_law_named (hr.mono (by decide)) rfl T.g__law_named D_law_named.kp b_law_named_2 .nil (fun σ => passAt (takes_of rfl rfl rfl rfl) σ) (pa_cons pe_int (pa_cons pe_str pa_nil))) (pe_tup (pa_cons pe_str (pa_cons pe_int pa_nil))) (nomark _)) (pw_or1 (pt_cmpR (op_neA hr) (pe_callSD G_law_named (hr.mono (by decide)) rfl T.g__law_named D_law_named.kp b_law_named_2 .nil (fun σ => passAt (takes_of rfl rfl rfl rfl) σ) (pa_cons pe_int (pa_cons pe_str pa_nil))) (pe_tup (pa_cons pe_str (pa_cons pe_int pa_nil))) (nomark _))))) (pss_one (ps_ret pe_bl)) pss_nil) (pss_cons (ps_set (i := 11) sc_law.nd rfl (by first | exact Or.inl rfl | exact Or.inr rfl) (pe_op op_addA pe_int (pe_callSD G_law_pick (hr.mono (by decide)) rfl T.g__law_pick D_law_pick.kp b_law_pick_2 .nil (fun σ => passAt (takes_of rfl rfl rfl rfl) σ) (pa_cons (pv 1) (pa_cons pe_int pa_nil))))) (pss_cons (ps_set (i := 6) sc_law.nd rfl (by first | exact Or.inl rfl | exact Or.inr rfl) (pe_ifExp (pt_cmpR op_ltA (pv 11) pe_int (nomark _)) (pe_tup (pa_cons pe_str (pa_cons (pe_op op_addA (pv 11) pe_int) pa_nil))) (pe_tup (pa_cons pe_str (pa_cons pe_int pa_nil))))) (pss_cons (ps_if (PW.pt (pw_or (pt_cmpR (op_neA hr) (pe_callSD G_law_named (hr.mono (by decide)) rfl T.g__law_named D_law_named.kp b_law_named_2 .nil (fun σ => passAt (takes_of rfl rfl rfl rfl) σ) (pa_cons pe_int (pa_cons (pe_op op_mulA (pe_ix ix_seq (pv 2) pe_int (fun _ _ => rfl)) (pv 11)) pa_nil))) (pv 6) (nomark _)) (pw_or1 (pt_cmpR (op_neA hr) (pe_callSD G_law_named (hr.mono (by decide)) rfl T.g__law_named D_law_named.kp b_law_named_2 .nil (fun σ => passAt (takes_of rfl rfl rfl rfl) σ) (pa_cons pe_int (pa_cons (pv 2) pa_nil))) (pe_tup (pa_cons pe_str (pa_cons pe_int pa_nil))) (nomark _))))) (pss_one (ps_ret pe_bl)) pss_nil) (pss_one (ps_ret (pe_and (pe_cmpR (op_eqA hr) (pe_callSD G_law_named (hr.mono (by decide)) rfl T.g__law_named D_law_named.kp b_law_named_2 .nil (fun σ => passAt (takes_of rfl rfl rfl rfl) σ) (pa_cons pe_int (pa_cons pe_str pa_nil))) (pe_tup (pa_cons pe_str (pa_cons pe_int pa_nil))) (nomark _)) (pe_one (pe_cmpR (op_eqA hr) (pe_callSD G_law_named (hr.mono (by decide)) rfl T.g__law_named D_law_named.kp b_law_named_2 .nil (fun σ => passAt (takes_of rfl rfl rfl rfl) σ) (pa_cons pe_int (pa_cons (pe_op op_mulA (pe_ix ix_seq (pv 2) pe_int (fun _ _ => rfl)) (pv 11)) pa_nil))) (pe_tup (pa_cons pe_str (pa_cons pe_int pa_nil))) (nomark _)))))))))))))))))))))))))
end
theorem txt_of {K : Frg} {h : Heap} {mg : Str → Option Value} (KX : K.In h) (G : h.Ns mainGlobals mg) (c : Rz.SaysR fa fn K) : Txt PROG K mg where
  f_abs := He.free_ok KX G (c.fact 0)
  f_int := He.free_ok KX G (c.fact 1)
  f_range := He.free_ok KX G (c.fact 2)
  F_law_pool := c.fun_ 0
  g__law_pool := He.glo_ok KX G (c.fact 3)
  F_law_pick := c.fun_ 1
  f_len := He.free_ok KX G (c.fact 4)
  g__law_pick := He.glo_ok KX G (c.fact 5)
  F_law_alphabet := c.fun_ 2
  g__law_alphabet := He.glo_ok KX G (c.fact 6)
  f_sorted := He.free_ok KX G (c.fact 7)
  f_list := He.free_ok KX G (c.fact 8)
  F_law_word_of := c.fun_ 3
  g__law_word_of := He.glo_ok KX G (c.fact 9)
  F_law_led_from := c.fun_ 4
  g__law_led_from := He.glo_ok KX G (c.fact 10)
  F_law_lot_of := c.fun_ 5
  g__law_lot_of := He.glo_ok KX G (c.fact 11)
  F_law_raw := c.fun_ 6
  g__law_raw := He.glo_ok KX G (c.fact 12)
  F_law_odd_sign := c.fun_ 7
  g__law_odd_sign := He.glo_ok KX G (c.fact 13)
  F_law_spoilt := c.fun_ 8
  g__law_spoilt := He.glo_ok KX G (c.fact 14)
  F_law_first_odd := c.fun_ 9
  g__law_first_odd := He.glo_ok KX G (c.fact 15)
  F_law_spread := c.fun_ 10
  g__law_spread := He.glo_ok KX G (c.fact 16)
  F_law_due_of := c.fun_ 11
  g__law_due_of := He.glo_ok KX G (c.fact 17)
  k_MOST_STATES := He.int_ok KX G (c.fact 18)
  xb_BadLot := Rz.excB_ok (c.fact 19)
  x_BadLot := ⟨(Rz.excB_ok (c.fact 19)).1, _, _, _, _, _, _, _, _, _, _, _, _, _, (Rz.iniB_ok (c.fact 20) (by decide +kernel) rfl (c.def_ 23).1 (c.def_ 23).2 rfl rfl), ⟨rfl, by decide +kernel, by decide +kernel, by decide +kernel, ⟨_, rfl, rfl⟩, by decide +kernel⟩, fun _ _ => ⟨_, rfl, rfl⟩, rfl, rfl, fun _ _ _ _ _ _ _ _ _ => rfl⟩
  f_super := He.free_ok KX G (c.fact 21)
  g_BadLot := He.glo_ok KX G (c.fact 22)
  n_Lot_table := He.noat_ok (c.fact 23)
  c_Lot := He.cls_ok (c.fact 24)
  k_SIGNS := He.str_ok KX G (c.fact 25)
  F_is_sign := c.fun_ 12
  g_is_sign := He.glo_ok KX G (c.fact 26)
  n_Lot_many := He.noat_ok (c.fact 27)
  f_set := He.free_ok KX G (c.fact 28)
  n_Lot_finals := He.noat_ok (c.fact 29)
  F_reached := c.fun_ 13
  g_reached := He.glo_ok KX G (c.fact 30)
  xb_Useless := Rz.excB_ok (c.fact 31)
  n_Useless_state := He.noat_ok (c.fact 32)
  iy_BadLot := (Rz.iniUB_ok (c.fact 33) (by decide +kernel) rfl (c.def_ 23).1 (c.def_ 23).2 rfl rfl).1
  ov_Useless := (Rz.overB_ok (c.fact 34)).1
  x_Useless := ⟨(Rz.excB_ok (c.fact 31)).1, He.noat_ok (c.fact 32), _, _, _, _, _, _, ("state" : Str), _, _, _, _, _, _, _, _, _, _, (Rz.excB_ok (c.fact 19)).1, ⟨(Rz.overB_ok (c.fact 34)).1, (Rz.overB_ok (c.fact 34)).2.1, (Rz.overB_ok (c.fact 34)).2.2.1, (Rz.overB_ok (c.fact 34)).2.2.2.1, (Rz.overB_ok (c.fact 34)).2.2.2.2, _, _, _, _, _, _, _, _, _, _, _, _, (Rz.iniUB_ok (c.fact 33) (by decide +kernel) rfl (c.def_ 23).1 (c.def_ 23).2 rfl rfl).2, ⟨rfl, by decide +kernel, by decide +kernel, by decide +kernel, ⟨_, rfl, rfl⟩, by decide +kernel⟩, fun _ _ => ⟨_, rfl, rfl⟩, rfl, rfl, fun _ _ _ _ _ _ _ _ _ => rfl⟩, (Rz.iniUB_ok (c.fact 35) (by decide +kernel) rfl (c.def_ 24).1 (c.def_ 24).2 rfl rfl).1, (Rz.iniUB_ok (c.fact 35) (by decide +kernel) rfl (c.def_ 24).1 (c.def_ 24).2 rfl rfl).2, ⟨⟨rfl, by decide +kernel, by decide +kernel, by decide +kernel, ⟨_, rfl, rfl⟩, by decide +kernel⟩, by decide +kernel, by decide +kernel, by decide +kernel⟩, fun _ _ => ⟨_, rfl, rfl⟩, rfl, rfl, fun _ _ _ _ _ _ _ _ _ _ => rfl⟩
  g_Useless := He.glo_ok KX G (c.fact 36)
  F_Lot_init := c.fun_ 14
  mk_Lot := He.mkr_ok (c.fact 37)
  g_Lot := He.glo_ok KX G (c.fact 38)
  F_Lot_states := c.fun_ 15
  p_Lot_states := Rz.propB_ok (c.fact 39)
  F_law_try_make := c.fun_ 16
  g__law_try_make := He.glo_ok KX G (c.fact 40)
  f_isinstance := He.free_ok KX G (c.fact 41)
  f_bool := He.free_ok KX G (c.fact 42)
  F_law_is_int := c.fun_ 17
  g__law_is_int := He.glo_ok KX G (c.fact 43)
  f_enumerate := He.free_ok KX G (c.fact 44)
  xb_BadSign := Rz.excB_ok (c.fact 45)
  n_BadSign_at := He.noat_ok (c.fact 46)
  x_BadSign := ⟨(Rz.excB_ok (c.fact 45)).1, He.noat_ok (c.fact 46), _, _, _, _, _, ("at" : Str), _, _, _, _, _, _, _, _, _, _, _, _, (Rz.iniB_ok (c.fact 47) (by decide +kernel) rfl (c.def_ 25).1 (c.def_ 25).2 rfl rfl), ⟨⟨rfl, by decide +kernel, by decide +kernel, by decide +kernel, ⟨_, rfl, rfl⟩, by decide +kernel⟩, by decide +kernel, by decide +kernel, by decide +kernel⟩, fun _ _ => ⟨_, rfl, rfl⟩, rfl, rfl, fun _ _ _ _ _ _ _ _ _ _ => rfl⟩
  g_BadSign := He.glo_ok KX G (c.fact 48)
  F_check_text := c.fun_ 18
  g_check_text := He.glo_ok KX G (c.fact 49)
  F_Lot_every := c.fun_ 19
  cm_Lot_every := Rz.cmB_ok (c.fact 50)
  F_Lot_only := c.fun_ 20
  cm_Lot_only := Rz.cmB_ok (c.fact 51)
  F_law_named := c.fun_ 21
  g__law_named := He.glo_ok KX G (c.fact 52)
  F_law := c.fun_ 22
  g_law := He.glo_ok KX G (c.fact 53)
  e_BadLot_Useless := He.exm_ok (c.fact 54)
  e_BadLot_BadLot := He.exm_ok (c.fact 55)
  e_BadLot_BadSign := He.exm_ok (c.fact 56)
  e_Useless_Useless := He.exm_ok (c.fact 57)
  e_Useless_BadLot := He.exm_ok (c.fact 58)
  e_Useless_BadSign := He.exm_ok (c.fact 59)
  e_BadSign_Useless := He.exm_ok (c.fact 60)
  e_BadSign_BadLot := He.exm_ok (c.fact 61)
  e_BadSign_BadSign := He.exm_ok (c.fact 62)
/- law: level 6, top 29 of 30 -/
end Lw

namespace Lw
open PySem PySem.Spec PyProof.Rows L2
/-! heaps -/
/-- all but what stands at d is as it was -/
def Keep (d : Addr) (H H' : Hp) : Prop := ∀ b o, b ≠ d → H b = some o → H' b = some o
theorem Keep.refl {d : Addr} {H : Hp} : Keep d H H := fun _ _ _ h => h
theorem Keep.trans {d : Addr} {H H1 H2 : Hp} (a : Keep d H H1) (b : Keep d H1 H2) : Keep d H H2 := fun c o n h => b c o n (a c o n h)
theorem Keep.new {d p : Addr} {H : Hp} {o : HO} (h : H p = none) : Keep d H (upd H p o) := fun b u _ e => by rw [upd_ne (ne_of_none e h)]; exact e
theorem Keep.at_ {d : Addr} {H : Hp} {o : HO} : Keep d H (upd H d o) := fun b u n e => by rw [upd_ne n]; exact e
theorem Keep.free {d p : Addr} {H H' : Hp} (k : Keep d H H') (hp : p ≠ d) (h : H' p = none) : H p = none := by
  cases e : H p with
  | none => rfl
  | some o => rw [k p o hp e] at h; cases h
theorem Keep.same {d : Addr} {H H' : Hp} (s : Same H H') : Keep d H H' := fun b o _ e => s b o e
theorem Same.new {p : Addr} {H : Hp} {o : HO} (h : H p = none) : Same H (upd H p o) := fun b u e => by rw [upd_ne (ne_of_none e h)]; exact e
/-- the draws: a list of ints at d, at most 4000 -/
def DrL (H : Hp) (d : Addr) : Prop := ∃ ds : List Int, ds.length ≤ 4000 ∧ H d = some (.lst (ds.map V.int))
theorem DrL.same {H H' : Hp} {d : Addr} (h : DrL H d) (s : Same H H') : DrL H' d := let ⟨ds, a, b⟩ := h; ⟨ds, a, s _ _ b⟩
theorem small2 {n : Nat} (h : n ≤ 16777216) : n ≤ sizeLine := by rw [sizeLine_eq]; exact h
theorem nilData {K : Frg} {H : Hp} {p : Addr} (h : H p = some (.lst [])) : Dp K H (.ref p) (.list []) := .lst (SqL.of h) .nil
theorem intsData {K : Frg} {H : Hp} : ∀ ds : List Int, DpAll K H (ds.map V.int) (ds.map PyData.int)
  | [] => .nil
  | i :: r => .cons (.int i) (intsData r)
theorem canLay_ints : ∀ ds : List Int, PyData.canLayAll0 (ds.map PyData.int) = true
  | [] => by simp [PyData.canLayAll0]
  | i :: r => by simp [PyData.canLayAll0, PyData.canLay0, canLay_ints r]
theorem depth_ints : ∀ ds : List Int, PyData.depthAll (ds.map PyData.int) = 0
  | [] => by simp [PyData.depthAll]
  | i :: r => by simp [PyData.depthAll, PyData.depth, depth_ints r]
theorem shaped_ints (ds : List Int) : SeqAt.shaped (.list (ds.map PyData.int)) = true := by
  simp [SeqAt.shaped, PyData.canLay0, canLay_ints, PyData.depth, depth_ints]
theorem eqv_nil (ds : List Int) : PyData.eqv (.list (ds.map PyData.int)) (.list []) = ds.isEmpty := by
  cases ds <;> simp [PyData.eqv, PyData.eqvAll]
theorem rd_bm {K : Frg} {T : String} {r : V → List V → Hp → VK → Prop} {to : TE} {t : TA} {σ : L2.St} {H : Hp} {Q : VK} (h : to σ H fun x H1 => tyV K T x H1 ∧ t σ H1 fun xs H2 => r x xs H2 Q) : tBM K T r to t σ H Q := h
theorem tyL {K : Frg} {H : Hp} {a : Addr} {xs : List V} (h : H a = some (.lst xs)) : tyV K "list" (.ref a) H := Or.inl ⟨rfl, _, Or.inl (Or.inl h)⟩
theorem append_go {H : Hp} {l : Addr} {xs : List V} {y : V} {Q : VK} (h : H l = some (.lst xs)) (hz : xs.length < 16777216) (q : Q .non (upd H l (.lst (xs ++ [y])))) : rAppend (.ref l) [y] H Q := ⟨l, xs, y, rfl, rfl, h, by rw [sizeLine_eq]; exact hz, q⟩
theorem mapI_app (ds : List Int) (i : Int) : ds.map V.int ++ [V.int i] = (ds ++ [i]).map V.int := by simp
theorem getI {ns : List Int} {i : Nat} {x : V} (h : (ns.map V.int)[i]? = some x) : ∃ z, ns[i]? = some z ∧ x = .int z := by
  rw [List.getElem?_map] at h
  cases e : ns[i]? with
  | none => rw [e] at h; cases h
  | some z => rw [e] at h; exact ⟨z, rfl, (Option.some.inj h).symm⟩
theorem rd_for {wi : TI} {g : TG} {tb : TS} {D : Ends} {σ : L2.St} {H : Hp} (h : wi σ H fun J H1 => ∃ W : Nat → Nat → L2.St → Hp → Prop, (∃ m, W 0 m σ H1) ∧ ∀ i m σ H, W i m σ H →
  (J.stop i H ∧ D.nx σ H) ∨ (J.go i H ∧ ∃ N : L2.St → Hp → Prop, (∀ σ' H', N σ' H' → ∃ m', m' < m ∧ W (i + 1) m' σ' H') ∧ ∀ x H', J.yld i H x H' → g x σ H' fun σ2 H2 => tb { D with nx := N, ct := N, bk := D.nx } σ2 H2)) : tFor wi g tb D σ H := h
theorem rd_rng1 {ta : TA} {σ : L2.St} {H : Hp} {R : It → Hp → Prop} (h : ta σ H fun vs H1 => ∃ j : Int, vs = [.int j] ∧ -(2 ^ 62) ≤ j ∧ j < 2 ^ 62 ∧ R (Itr 0 j.toNat) H1) : iRng1 ta σ H R := h
theorem rd_iList {K : Frg} {tl : TE} {σ : L2.St} {H : Hp} {R : It → Hp → Prop} (h : tl σ H fun x H1 => ∃ a, x = .ref a ∧ (∃ xs, SqL K H1 a xs) ∧ R (Itl K a) H1) : iList K tl σ H R := h
theorem mulS {i j : Int} (h1 : -1000000 ≤ j) (h2 : j ≤ 1000000) : CMul i j := .inr ⟨by omega, by omega⟩
theorem mulS' {i j : Int} (h1 : -1000000 ≤ i) (h2 : i ≤ 1000000) : CMul i j := .inl ⟨by omega, by omega⟩
theorem rd_enumS {ta : TA} {σ : L2.St} {H : Hp} {R : It → Hp → Prop} (h : ta σ H fun vs H1 => ∃ x, vs = [.str x] ∧ R (Ites x) H1) : iEnumS ta σ H R := h
theorem rd_gtup {K : Frg} {n : Nat} {t : TGs} {a : Addr} {xs : List V} {σ : L2.St} {H : Hp} {Q : L2.St → Hp → Prop} (h : H a = some (.tup xs)) (hl : xs.length = n) (q : t xs σ H Q) : gTup K n t (.ref a) σ H Q := ⟨a, xs, rfl, SqT.of h, hl, q⟩
theorem rd_gcons {t : TG} {u : TGs} {v : V} {r : List V} {σ : L2.St} {H : Hp} {Q : L2.St → Hp → Prop} (h : t v σ H fun σ' H' => u r σ' H' Q) : gCons t u (v :: r) σ H Q := ⟨v, r, rfl, h⟩
theorem rd_gnil {σ : L2.St} {H : Hp} {Q : L2.St → Hp → Prop} (h : Q σ H) : gNil [] σ H Q := ⟨rfl, h⟩
theorem rd_sfld {K : Frg} {ta tv : TE} {f : Str} {D : Ends} {σ : L2.St} {H : Hp} (h : tv σ H fun y H1 => ta σ H1 fun x H2 => ∃ a C dx fs, x = .ref a ∧ H2 a = some (.ins C dx fs) ∧ Cls K C ∧ NoAttr K C f ∧ fs.length < 1000 ∧ D.nx σ (upd H2 a (.ins C dx (putF f y fs)))) : sFld K ta tv f D σ H := h
theorem rd_m1 {r : V → List V → Hp → VK → Prop} {to te : TE} {σ : L2.St} {H : Hp} {Q : VK} (h : to σ H fun x H1 => (∃ a, x = .str a) ∧ te σ H1 fun y H2 => r x [y] H2 Q) : tM1 r to te σ H Q := h
theorem rd_lc {wi : TI} {g : TG} {tt : TT} {te : TE} {vs : List Nat} {σ : L2.St} {H : Hp} {Q : VK} (h : wi σ H fun J H1 => ∀ D, H1 D = none → ∃ W : Nat → Nat → Hp → Prop, (∃ m, W 0 m (upd H1 D (.lst []))) ∧ ∀ i m H, W i m H →
  (J.stop i H ∧ Q (.ref D) H) ∨ (J.go i H ∧ ∃ Nx : Hp → Prop, (∀ H', Nx H' → ∃ m', m' < m ∧ W (i + 1) m' H') ∧ ∀ x H', J.yld i H x H' → g x (wipe σ vs) H' fun σ2 H2 => wipe σ2 vs = wipe σ vs ∧ tt σ2 H2 fun b H3 =>
    if b = true then te σ2 H3 fun y H4 => ∃ acc, H4 D = some (.lst acc) ∧ acc.length < sizeLine ∧ Nx (upd H4 D (.lst (acc ++ [y]))) else Nx H3)) : tLc wi g tt te vs σ H Q := h
theorem rd_make {C : Addr} {sp : Sp} {dvs : List V} {EE : L2.St → XK} {tl : TA} {σ : L2.St} {H : Hp} {Q : VK} (h : tl σ H fun vs H1 => ∀ y dx, H1 y = none → H1 dx = none → dx ≠ y → sp (.ref y :: (vs ++ dvs)) (upd (upd H1 dx (.own y)) y (.ins C dx [])) (fun v H2 => v = .non ∧ Q (.ref y) H2) (EE σ)) :
    tMakeS C sp dvs EE tl σ H Q := h
theorem rd_fld {K : Frg} {ta : TE} {f : Str} {σ : L2.St} {H : Hp} {Q : VK} (h : ta σ H fun x H1 => ∃ a C dx fs v, x = .ref a ∧ H1 a = some (.ins C dx fs) ∧ Cls K C ∧ NoAttr K C f ∧ fs.lookup f = some v ∧ Q v H1) : tFld K ta f σ H Q := h
theorem rd_strO {C : Addr} {sp : Sp} {EE : L2.St → XK} {tl : TA} {σ : L2.St} {H : Hp} {Q : VK} (h : tl σ H fun vs H1 => ∃ a dx fs, vs = [.ref a] ∧ H1 a = some (.ins C dx fs) ∧ sp [.ref a] H1 (fun v H' => ∃ z, v = .str z ∧ Q (.str z) H') (EE σ)) : tStrO C sp EE tl σ H Q := h
theorem rd_xf {a : Addr} {cls : Value} {d : Option Addr} {C : Addr} {f : Str} {te : TE} {σ : L2.St} {H : Hp} {Q : VK} (h : te σ H fun x H1 => x = .ref a ∧ cls = .ref C ∧ ∃ (dd : Addr) (fs : List (Str × V)) (v : V), d = some dd ∧ H1 dd = some (.xd fs) ∧ fs.lookup f = some v ∧ Q v H1) : tXf a cls d C f te σ H Q := h
theorem rd_fmt {te : TE} {σ : L2.St} {H : Hp} {Q : VK} (h : te σ H fun x H1 => (∃ y : Str, x = .str y ∧ y.length ≤ sizeLine ∧ Q (.str y) H1) ∨ ∃ i : Int, x = .int i ∧ i.natAbs.log2 < 1920 ∧ Q (.str (toString i)) H1) : tFmt te σ H Q := h
theorem rd_prop {C : Addr} {sp : Sp} {dvs : List V} {E : XK} {ta : TE} {σ : L2.St} {H : Hp} {Q : VK} (h : ta σ H fun x H1 => ∃ a dx fs, x = .ref a ∧ H1 a = some (.ins C dx fs) ∧ sp (.ref a :: dvs) H1 Q E) : tProp C sp dvs E ta σ H Q := h
theorem rd_meth {C : Addr} {m : Str} {sp : Sp} {dvs : List V} {EE : L2.St → XK} {ta : TE} {tl : TA} {σ : L2.St} {H : Hp} {Q : VK} (h : ta σ H fun y H1 => ∃ a dx fs, y = .ref a ∧ H1 a = some (.ins C dx fs) ∧ fs.lookup m = none ∧ tl σ H1 fun vs H2 => sp (y :: (vs ++ dvs)) H2 Q (EE σ)) : tMethZ C m sp dvs EE ta tl σ H Q := h
/-- an exception at the clauses -/
theorem mix_hit {K : Frg} {W : WX} {D : Ends} {q : Clause} {r : List Clause} {cls : Value} {d : Option Addr} {σ : L2.St} {H : Hp} (e : PySem.W.exmOne K cls q.c = some true) (h : ∀ a, H a = none → q.does cls d D σ H a) : wMix K W D (q :: r) cls d σ H :=
  ⟨true, e, fun _ => h, fun z => Bool.noConfusion z⟩
theorem mix_miss {K : Frg} {W : WX} {D : Ends} {q : Clause} {r : List Clause} {cls : Value} {d : Option Addr} {σ : L2.St} {H : Hp} (e : PySem.W.exmOne K cls q.c = some false) (h : wMix K W D r cls d σ H) : wMix K W D (q :: r) cls d σ H :=
  ⟨false, e, fun z => Bool.noConfusion z, fun _ => h⟩
theorem rd_tjs {t : TE} {ts : List TE} {acc : Str} {σ : L2.St} {H : Hp} {R : Str → Hp → Prop} (h : t σ H fun x H1 => ∃ y : Str, x = .str y ∧ (acc ++ y).length ≤ sizeLine ∧ tJs ts (acc ++ y) σ H1 R) : tJs (t :: ts) acc σ H R := h
theorem rd_tjs0 {acc : Str} {σ : L2.St} {H : Hp} {R : Str → Hp → Prop} (h : R acc H) : tJs [] acc σ H R := h
theorem rd_iteB {b : Bool} {A B : Prop} (e : b = true) (h : A) : if b = true then A else B := by rw [e]; exact h
theorem rd_iteC {b : Bool} {A B : Prop} (e : b = false) (h : B) : if b = true then A else B := by rw [e]; exact h
theorem does_some {c : Value} {i : Nat} {ts : TSu} {cls : Value} {d : Option Addr} {D : Ends} {σ : L2.St} {H : Hp} {a : Addr} (h : ts a cls d (D.drop i) (σ.set i (some (.ref a))) H) : (Clause.mk c (some i) ts).does cls d D σ H a := h
theorem does_none {c : Value} {ts : TSu} {cls : Value} {d : Option Addr} {D : Ends} {σ : L2.St} {H : Hp} {a : Addr} (h : ts a cls d D σ H) : (Clause.mk c none ts).does cls d D σ H a := h
/-! texts as lists of codes -/
def tx (l : List Nat) : Str := ⟨l.toArray⟩
theorem tx_toList (l : List Nat) : (tx l).cps.toList = l := by simp [tx]
theorem tx_self (z : Str) : tx z.cps.toList = z := by obtain ⟨c⟩ := z; simp [tx]
theorem tx_len (l : List Nat) : (tx l).length = l.length := by simp [tx, Str.length]
theorem tx_inj {l m : List Nat} : tx l = tx m ↔ l = m := ⟨fun h => by have := congrArg (fun z : Str => z.cps.toList) h; simpa [tx] using this, fun h => by rw [h]⟩
theorem tx_app (l m : List Nat) : tx l ++ tx m = tx (l ++ m) := by
  show (⟨l.toArray ++ m.toArray⟩ : Str) = _
  simp [tx]
theorem joinL_nil : ∀ ps : List (List Nat), TL.joinL [] ps = ps.flatten
  | [] => rfl
  | [p] => by simp [TL.joinL]
  | p :: q :: r => by
    show p ++ ([] ++ TL.joinL [] (q :: r)) = _
    rw [joinL_nil (q :: r)]
    simp
theorem flat_one : ∀ cs : List Nat, (cs.map fun c => [c]).flatten = cs
  | [] => rfl
  | c :: r => by rw [List.map_cons, List.flatten_cons, flat_one r]; rfl
theorem join_tx (ps : List (List Nat)) : Txt.join (Str.ofString "") (ps.map tx) = tx ps.flatten := by
  rw [TL.join_eq]
  have h := TL.tl_join (Str.ofString "") (ps.map tx)
  have e : (ps.map tx).map TL.tl = ps := by
    rw [List.map_map]
    conv => rhs; rw [← List.map_id ps]
    apply List.map_congr_left
    intro l _
    exact tx_toList l
  rw [e, show TL.tl (Str.ofString "") = [] from rfl, joinL_nil] at h
  rw [← h]
  exact (tx_self _).symm
theorem sIx_none (n d : Nat) : HT.sIx n d none = d := rfl
theorem sIx_nat (n d k : Nat) (h : k ≤ n) : HT.sIx n d (some (k : Int)) = k := by
  rw [HT.sIx_nat]
  omega
theorem cut_to (l : List Nat) (k : Nat) (h : k ≤ l.length) : cutS (tx l) none (some (k : Int)) = tx (l.take k) := by
  unfold cutS
  rw [tx_toList, tx_len, sIx_none, sIx_nat _ _ _ h]
  rfl
theorem cut_from (l : List Nat) (k : Nat) (h : k ≤ l.length) : cutS (tx l) (some (k : Int)) none = tx (l.drop k) := by
  unfold cutS
  rw [tx_toList, tx_len, sIx_none, sIx_nat _ _ _ h]
  rw [List.take_of_length_le (by rw [List.length_drop]; exact Nat.le_refl _)]
  rfl
/-- the 26 letters -/
def letters : List Nat := (Str.ofString "abcdefghijklmnopqrstuvwxyz").cps.toList
/-- the first place that is no letter; -1 if there is none -/
def fo : List Nat → Int
  | [] => -1
  | c :: r => if c ∈ letters then (if fo r < 0 then -1 else fo r + 1) else 0
theorem fo_ge : ∀ l, -1 ≤ fo l
  | [] => Int.le_refl _
  | c :: r => by
    have := fo_ge r
    unfold fo
    split
    · split <;> omega
    · omega
/-- the first i are letters, and the next is none -/
theorem fo_at : ∀ (l : List Nat) (i : Nat) (c : Nat), (∀ (j x : Nat), j < i → l[j]? = some x → x ∈ letters) → l[i]? = some c → c ∉ letters → fo l = i
  | [], i, c, _, h, _ => by simp at h
  | x :: r, 0, c, _, h, hc => by
    have e : x = c := Option.some.inj h
    unfold fo
    rw [e, if_neg hc]
    rfl
  | x :: r, i + 1, c, hp, h, hc => by
    have hx : x ∈ letters := hp 0 x (Nat.succ_pos _) rfl
    have := fo_at r i c (fun j y hj e => hp (j + 1) y (Nat.succ_lt_succ hj) e) h hc
    unfold fo
    rw [if_pos hx, this, if_neg (by omega)]
    omega
theorem fo_none : ∀ (l : List Nat), (∀ (j x : Nat), l[j]? = some x → x ∈ letters) → fo l = -1
  | [], _ => rfl
  | x :: r, hp => by
    have hx : x ∈ letters := hp 0 x rfl
    have := fo_none r (fun j y e => hp (j + 1) y e)
    unfold fo
    rw [if_pos hx, this]
    rfl
theorem tx_get (l : List Nat) (i : Nat) : (tx l).cps[i]? = l[i]? := by simp [tx]
theorem rd_iteG {b : Bool} {A B : Prop} (h1 : b = true → A) (h2 : b = false → B) : if b = true then A else B := by cases b with | true => exact h1 rfl | false => exact h2 rfl
local macro_rules | `(tactic| walk_at "rd") => `(tactic| first
  | (with_reducible refine rd_seq ?_) | (with_reducible refine rd_asg ?_) | (with_reducible refine rd_name ?_) | (with_reducible refine rd_drop ?_) | (with_reducible refine rd_ret ?_) | (with_reducible refine rd_retN ?_) | (with_reducible refine rd_next ?_)
  | (with_reducible refine rd_ifS ?_)
  | ((with_reducible show tVar _ _ _ _); refine rd_var rfl ?_)
  | (with_reducible refine rd_c ?_) | (with_reducible refine rd_op ?_) | (with_reducible refine rd_un ?_) | (with_reducible refine rd_neg ?_) | (with_reducible refine rd_cb ?_) | (with_reducible refine rd_nil ?_) | (with_reducible refine rd_cons ?_)
  | (with_reducible refine rd_test ?_) | (with_reducible refine rd_tb ?_) | ((with_reducible show ∃ k, V.bl _ = V.bl k ∧ _); refine ⟨_, rfl, ?_⟩) | (with_reducible refine rd_and ?_) | (with_reducible refine rd_or ?_) | (with_reducible refine rd_not ?_)
  | (with_reducible refine rd_andV ?_) | (with_reducible refine rd_orV ?_) | (with_reducible refine rd_notV ?_) | (with_reducible refine rd_ifE ?_)
  | (with_reducible refine rd_tup ?_) | (with_reducible refine rd_lst ?_) | (with_reducible refine rd_call ?_) | (with_reducible refine rd_joined ?_)
  | (with_reducible refine rd_raise ?_) | (with_reducible refine rd_mkx ?_) | (with_reducible refine rd_mkx0 ?_) | (with_reducible refine rd_try ?_)
  | (with_reducible refine rd_sl ?_) | (with_reducible refine rd_nopart ?_) | (with_reducible refine rd_part ?_) | ((with_reducible show ∃ k, V.int _ = V.int k ∧ _); refine ⟨_, rfl, ?_⟩) | (with_reducible refine rd_chain ?_) | (with_reducible refine rd_yes ?_)
  | (with_reducible refine rd_iteT ?_) | (with_reducible refine rd_iteF ?_)
  | (with_reducible refine addA_int ?_) | (with_reducible refine i0_go ?_) | (with_reducible refine ltA_int ?_) | (with_reducible refine eqA_int ?_) | (with_reducible refine neA_int ?_) | (with_reducible refine eqA_str ?_) | (with_reducible refine neA_str ?_)
  | ((with_reducible refine mulA_int ?c ?_); case c => first | exact mulS (by omega) (by omega) | exact mulS' (by omega) (by omega))
  | ((with_reducible refine i_go ?c ?_); case c => first | ((with_reducible show (0 : Int) < _); omega) | exact ⟨by decide, by decide⟩ | exact ⟨by decide, by decide, by decide⟩)
  | (with_reducible refine intA_int ?_) | (with_reducible refine rd_bm ?_) | (with_reducible refine rd_for ?_) | (with_reducible refine rd_rng1 ?_) | (with_reducible refine rd_iList ?_) | (with_reducible refine rd_enumS ?_) | (with_reducible refine rd_gcons ?_) | (with_reducible refine rd_gnil ?_) | (with_reducible refine rd_sfld ?_) | (with_reducible refine rd_m1 ?_) | (with_reducible refine rd_lc ?_) | (with_reducible refine rd_make ?_) | (with_reducible refine rd_fld ?_)
  | (with_reducible refine rd_strO ?_) | (with_reducible refine rd_xf ?_) | (with_reducible refine rd_fmt ?_) | (with_reducible refine rd_prop ?_) | (with_reducible refine rd_meth ?_) | (with_reducible refine does_some ?_) | (with_reducible refine does_none ?_) | ((with_reducible show List.length _ ≤ sizeLine ∧ _); refine ⟨small2 (by simp), ?_⟩)
  | (with_reducible refine rd_tjs ?_) | (with_reducible refine rd_tjs0 ?_))
local macro_rules | `(tactic| walk_at "go") => `(tactic| repeat walk_at "rd")
local macro_rules | `(tactic| walk_at "all") => `(tactic| repeat' (first
  | walk_at "rd"
  | ((with_reducible show if _ = true then _ else _); first | refine rd_iteB rfl ?_ | refine rd_iteC rfl ?_ | refine rd_ite (fun _ => ?_) (fun _ => ?_) | refine rd_iteN (fun _ => ?_) (fun _ => ?_) | refine rd_iteG (fun _ => ?_) (fun _ => ?_))))
variable {K : Frg}
theorem rd_iStr {te : TE} {σ : L2.St} {H : Hp} {R : It → Hp → Prop} (h : te σ H fun v H1 => ∃ x, v = .str x ∧ R (Its x) H1) : iStr te σ H R := h
theorem rd_zipS {K : Frg} {ta : TA} {σ : L2.St} {H : Hp} {Q : VK} (h : ta σ H fun vs H1 => rZipS K vs H1 Q) : tZipS K ta σ H Q := h
theorem rd_lenO {C : Addr} {sp : Sp} {E : L2.St → XK} {t : TA} {σ : L2.St} {H : Hp} {Q : VK} (h : t σ H fun vs H1 => rLenO C sp E σ vs H1 Q) : tLenO C sp E t σ H Q := h
theorem rd_absO {C : Addr} {sp : Sp} {E : L2.St → XK} {t : TA} {σ : L2.St} {H : Hp} {Q : VK} (h : t σ H fun vs H1 => ∃ a dx fs, vs = [.ref a] ∧ H1 a = some (.ins C dx fs) ∧ sp [.ref a] H1 Q (E σ)) : tAbsO C sp E t σ H Q := h
theorem rd_listO {C : Addr} {spI spL : Sp} {E : L2.St → XK} {t : TA} {σ : L2.St} {H : Hp} {Q : VK} (h : t σ H fun vs H1 => rListO C spI spL E σ vs H1 Q) : tListO C spI spL E t σ H Q := h
theorem rd_gsub {to ti : TE} {r : V → V → V → Hp → (Hp → Prop) → Prop} {σ : L2.St} {H : Hp} {v : V} {Q : L2.St → Hp → Prop} (h : to σ H fun x H1 => ti σ H1 fun i H2 => r x i v H2 fun H3 => Q σ H3) : gSub to ti r v σ H Q := h
local macro_rules | `(tactic| walk_at "rd") => `(tactic| first
  | (with_reducible refine rd_iStr ?_) | (with_reducible refine rd_zipS ?_) | (with_reducible refine rd_lenO ?_) | (with_reducible refine rd_absO ?_) | (with_reducible refine rd_listO ?_) | (with_reducible refine rd_gsub ?_))
/-! the draws -/
theorem pick_ok {d : Addr} {m : Int} {H : Hp} {Q : VK} {E : XK} (hm : 0 < m) (hd : DrL H d) (h : ∀ r H', 0 ≤ r → r < m → Keep d H H' → DrL H' d → Q (.int r) H') : sp_law_pick K [.ref d, .int m] H Q E := by
  obtain ⟨ds, hl, hd⟩ := hd
  refine ⟨rfl, ?_⟩
  unfold t_law_pick
  walk_at "go"
  intro p hp
  have hdp : (upd H p (.lst [])) d = some (.lst (ds.map V.int)) := by rw [upd_ne (ne_of_none hd hp)]; exact hd
  refine eqA_data (.lst (SqL.of hdp) (intsData ds)) (nilData upd_same) (shaped_ints ds) (shaped_ints []) (eqv_nil ds) ⟨_, rfl, ?_⟩
  cases ds with
  | nil =>
    refine rd_iteT ?_
    walk_at "go"
    exact h 0 _ (by omega) hm (Keep.new hp) ⟨[], Nat.zero_le _, hdp⟩
  | cons i r =>
    refine rd_iteF ?_
    walk_at "go"
    refine ⟨tyL hdp, ?_⟩
    walk_at "go"
    refine ⟨d, _, 0, 0, .int i, rfl, rfl, hdp, by decide, by decide, ?_, rfl, ?_⟩
    · show seqIndex? 0 (List.length ((i :: r).map V.int)) = some 0
      simp [seqIndex?]
    · walk_at "go"
      refine h _ _ (Int.emod_nonneg _ (by omega)) (Int.emod_lt_of_pos _ hm) ((Keep.new hp).trans Keep.at_) ⟨r, Nat.le_of_succ_le hl, ?_⟩
      rw [upd_same]
      rfl

theorem pool_ok {a : Addr} {ns : List Int} {H : Hp} {Q : VK} {E : XK} (hS : SqL K H a (ns.map V.int)) (hn : ns.length ≤ 63) (h : ∀ d H', Same H H' → H d = none → DrL H' d → Q (.ref d) H') : sp_law_pool K [.ref a] H Q E := by
  refine ⟨rfl, ?_⟩
  unfold t_law_pool
  walk_at "go"
  intro d hd
  walk_at "go"
  refine ⟨a, rfl, ⟨_, (Same.new hd).seq hS⟩, ?_⟩
  refine for_list (K := K) (a := a) (xs := ns.map V.int) (fun i σ H2 => ∃ (seed : Int) (v3 v4 v5 v6 : Option V) (ds : List Int), σ = [some (.ref a), some (.ref d), some (.int seed), v3, v4, v5, v6] ∧ 0 ≤ seed ∧ seed < 1009 ∧ ds.length ≤ 60 * i ∧
    Same H H2 ∧ H2 d = some (.lst (ds.map V.int))) ⟨0, none, none, none, none, [], rfl, by omega, by omega, Nat.le_refl _, Same.new hd, upd_same⟩ (fun i σ H2 _ ⟨_, _, _, _, _, _, _, _, _, _, s2, _⟩ => s2.seq hS) ?_ ?_
  · rintro i x σ H2 hi ⟨seed, v3, v4, v5, v6, ds, rfl, h0, h1, hl, s2, e2⟩
    obtain ⟨z, hz, rfl⟩ := getI hi
    have hi63 : i < 63 := by have := (List.getElem?_eq_some_iff.mp hz).1; omega
    have free : ∀ {H3 : Hp}, H3 = upd H2 d (.lst (ds.map V.int)) → H3 = H2 := fun {H3} e => by
      rw [e]; funext b; by_cases hb : b = d
      · rw [hb, upd_same, e2]
      · rw [upd_ne hb]
    walk_at "go"
    refine ⟨z, rfl, ?_⟩
    walk_at "go"
    have n0 := Int.emod_nonneg (seed * 31 + (if z < 0 then -z else z)) (by decide : (1009 : Int) ≠ 0)
    have n1 := Int.emod_lt_of_pos (seed * 31 + (if z < 0 then -z else z)) (by decide : (0 : Int) < 1009)
    generalize (seed * 31 + (if z < 0 then -z else z)) % 1009 = seed' at n0 n1 ⊢
    generalize (if z < 0 then -z else z) = rest
    walk_at "go"
    refine rd_ite (fun hlt => ?_) (fun hge => ?_)
    · walk_at "go"
      refine ⟨tyL e2, ?_⟩
      walk_at "go"
      refine append_go e2 (by rw [List.length_map]; omega) ?_
      refine ⟨seed', _, _, _, _, ds ++ [rest], rfl, n0, n1, by rw [List.length_append, List.length_singleton]; omega, fun b o e => ?_, by rw [upd_same, mapI_app]⟩
      rw [upd_ne (ne_of_none e hd)]
      exact s2 b o e
    · walk_at "go"
      refine ⟨60, rfl, by decide, by decide, ?_⟩
      refine forR (n := 60) (fun k σ H3 => ∃ (v4 v5 : Option V) (r : Int) (es : List Int), σ = [some (.ref a), some (.ref d), some (.int seed'), some (.int z), v4, some (.int r), v6] ∧ es.length ≤ 60 * i + k ∧ Same H H3 ∧ H3 d = some (.lst (es.map V.int)))
        ⟨_, none, rest, ds, rfl, hl, s2, e2⟩ ?_ ?_
      · rintro k σ H3 hk ⟨v4', v5', r, es, rfl, hl3, s3, e3⟩
        walk_at "go"
        refine rd_ite (fun hlt => ?_) (fun hge => ?_)
        · walk_at "go"
          refine ⟨tyL e3, ?_⟩
          walk_at "go"
          refine append_go e3 (by rw [List.length_map]; omega) ?_
          walk_at "go"
          refine ⟨_, none, _, es ++ [r % 1000], rfl, by rw [List.length_append, List.length_singleton]; omega, fun b o e => ?_, by rw [upd_same, mapI_app]⟩
          rw [upd_ne (ne_of_none e hd)]
          exact s3 b o e
        · walk_at "go"
          exact ⟨_, none, r, es, rfl, by omega, s3, e3⟩
      · rintro σ H3 ⟨v4', v5', r, es, rfl, hl3, s3, e3⟩
        refine ⟨seed', _, _, _, _, es, rfl, n0, n1, ?_, s3, e3⟩
        have : (60 : Int).toNat = 60 := rfl
        omega
  · rintro σ H2 ⟨seed, v3, v4, v5, v6, ds, rfl, h0, h1, hl, s2, e2⟩
    rw [List.length_map] at hl
    walk_at "go"
    refine ⟨90, rfl, by decide, by decide, ?_⟩
    refine forR (n := 90) (fun k σ H3 => ∃ (v4 v6 : Option V) (es : List Int), σ = [some (.ref a), some (.ref d), some (.int seed), v3, v4, v5, v6] ∧ es.length ≤ 60 * ns.length + k ∧ Same H H3 ∧ H3 d = some (.lst (es.map V.int)))
      ⟨_, _, ds, rfl, hl, s2, e2⟩ ?_ ?_
    · rintro k σ H3 hk ⟨v4', v6', es, rfl, hl3, s3, e3⟩
      walk_at "go"
      generalize hw : ((seed + 1) * ((3 * (k : Int) * k + 5 * k) / 2 + 7)) % 1009 = w'
      have w0 : 0 ≤ w' := by rw [← hw]; exact Int.emod_nonneg _ (by decide)
      have w1 : w' < 1009 := by rw [← hw]; exact Int.emod_lt_of_pos _ (by decide)
      walk_at "go"
      refine ⟨tyL e3, ?_⟩
      walk_at "go"
      refine append_go e3 (by rw [List.length_map]; omega) ?_
      refine ⟨_, _, es ++ [(w' * w' + (k : Int)) % 1013], rfl, by rw [List.length_append, List.length_singleton]; omega, fun b o e => ?_, by rw [upd_same, mapI_app]⟩
      rw [upd_ne (ne_of_none e hd)]
      exact s3 b o e
    · rintro σ H3 ⟨v4', v6', es, rfl, hl3, s3, e3⟩
      walk_at "go"
      refine h d H3 s3 hd ⟨es, ?_, e3⟩
      have : (90 : Int).toNat = 90 := rfl
      omega
/-- check_text -/
theorem check_ok {l : List Nat} {H : Hp} {Q : VK} {E : XK} (h : fo l = -1 → ∀ H', Same H H' → Q .non H')
    (hE : 0 ≤ fo l → ∀ H' d, Same H H' → H' d = none → E (.ref (He.ga K "BadSign")) (some d) (upd H' d (.xd [("at", .int (fo l))]))) : sp_check_text K [.str (tx l)] H Q E := by
  refine ⟨rfl, ?_⟩
  unfold t_check_text
  walk_at "go"
  refine ⟨_, rfl, for_it walk_enumS (fun i σ H2 => Same H H2 ∧ (∃ v v', σ = [some (.str (tx l)), v, v']) ∧ ∀ (j x : Nat), j < i → l[j]? = some x → x ∈ letters) ⟨Same.refl _, ⟨none, none, rfl⟩, fun j x hj _ => absurd hj (Nat.not_lt_zero _)⟩ (fun _ _ _ _ _ => trivial) ?_ ?_⟩
  · rintro i x σ H2 H3 hi ⟨s2, ⟨v, v', rfl⟩, hp⟩ ⟨T, c, rfl, hT, hc, rfl⟩
    rw [tx_get] at hc
    refine rd_gtup upd_same rfl ?_
    walk_at "go"
    refine notInA_sign ?_
    walk_at "go"
    have s3 : Same H (upd H2 T (.tup [.int (i : Nat), .str ⟨#[c]⟩])) := s2.trans (Same.new hT)
    refine rd_iteN (fun hc' => ?_) (fun hc' => ?_)
    · have e := fo_at l i c hp hc hc'
      rw [e] at hE
      walk_at "go"
      exact ⟨_, rfl, fun d hd => hE (by omega) _ d s3 hd⟩
    · walk_at "go"
      refine ⟨s3, ⟨_, _, rfl⟩, fun j x hj e => ?_⟩
      by_cases hji : j = i
      · subst hji
        rw [hc] at e
        rw [← Option.some.inj e]
        exact hc'
      · exact hp j x (by omega) e
  · rintro σ H2 ⟨s2, _, hp⟩
    refine h (fo_none l fun j x e => hp j x ?_ e) H2 s2
    have := (List.getElem?_eq_some_iff.mp e).1
    show j < (tx l).cps.size
    simpa [tx] using this
theorem rd_own {C : Addr} {sp : Sp} {E : L2.St → XK} {Pv : V → Hp → Prop} {ta tb : TE} {σ : L2.St} {H : Hp} {Q : VK} (h : ta σ H fun x H1 => tb σ H1 fun y H2 => ∃ a dx fs, x = .ref a ∧ H2 a = some (.ins C dx fs) ∧ Pv y H2 ∧ sp [.ref a, y] H2 Q (E σ)) : tOwn C sp E Pv ta tb σ H Q := h
theorem rd_inO {C : Addr} {sp : Sp} {E : L2.St → XK} {ta tb : TE} {σ : L2.St} {H : Hp} {Q : VK} (h : ta σ H fun x H1 => tb σ H1 fun y H2 => ∃ a dx fs, y = .ref a ∧ H2 a = some (.ins C dx fs) ∧ sp [.ref a, x] H2 (fun v H' => ∃ b, v = .bl b ∧ Q (.bl b) H') (E σ)) : tInO C sp E ta tb σ H Q := h
theorem rd_rmul {C : Addr} {sp : Sp} {E : L2.St → XK} {ta tb : TE} {σ : L2.St} {H : Hp} {Q : VK} (h : ta σ H fun x H1 => tb σ H1 fun y H2 => ∃ i a dx fs, x = .int i ∧ y = .ref a ∧ H2 a = some (.ins C dx fs) ∧ sp [.ref a, .int i] H2 Q (E σ)) : tRmul C sp E ta tb σ H Q := h
theorem rd_sli {ta tb : TE} {σ : L2.St} {H : Hp} {Q : VK} (h : ta σ H fun x H1 => tb σ H1 fun y H2 => ∃ i j, x = .int i ∧ y = .int j ∧ ∀ p, H2 p = none → Q (.ref p) (upd H2 p (Sli p i j))) : tSli ta tb σ H Q := h
theorem rd_gsubO {C : Addr} {sp : Sp} {E : L2.St → XK} {to ti : TE} {v : V} {σ : L2.St} {H : Hp} {Q : L2.St → Hp → Prop} (h : to σ H fun x H1 => ti σ H1 fun i H2 => ∃ a dx fs, x = .ref a ∧ H2 a = some (.ins C dx fs) ∧ sp [.ref a, i, v] H2 (fun _ H3 => Q σ H3) (E σ)) : gSubO C sp E to ti v σ H Q := h
theorem rd_dT {c : Prop} [Decidable c] {A B : Prop} (hc : c) (h : A) : if decide c = true then A else B := by rw [decide_eq_true hc]; exact h
theorem rd_dF {c : Prop} [Decidable c] {A B : Prop} (hc : ¬ c) (h : B) : if decide c = true then A else B := by rw [decide_eq_false hc]; exact h
theorem rd_nT {c : Prop} [Decidable c] {A B : Prop} (hc : c) (h : B) : if (!decide c) = true then A else B := by rw [decide_eq_true hc]; exact h
theorem rd_nF {c : Prop} [Decidable c] {A B : Prop} (hc : ¬ c) (h : A) : if (!decide c) = true then A else B := by rw [decide_eq_false hc]; exact h
theorem rd_caO {C : Addr} {sp : Sp} {dvs : List V} {E : L2.St → XK} {ta : TE} {t : TA} {σ : L2.St} {H : Hp} {Q : VK} (h : ta σ H fun y H1 => ∃ a, y = .ref a ∧ t σ H1 fun vs H2 => ∃ dx fs, H2 a = some (.ins C dx fs) ∧ sp (.ref a :: (vs ++ dvs)) H2 Q (E σ)) : tCaO C sp dvs E ta t σ H Q := h
theorem rd_caK {C : Addr} {n m : Nat} {sp : Sp} {gV : List V → List V → List V} {E : L2.St → XK} {ta : TE} {t tk : TA} {σ : L2.St} {H : Hp} {Q : VK} (h : ta σ H fun y H1 => ∃ a, y = .ref a ∧ t σ H1 fun vs H2 => tk σ H2 fun zs H3 => ∃ dx fs, H3 a = some (.ins C dx fs) ∧ vs.length = n ∧ zs.length = m ∧ sp (gV (.ref a :: vs) zs) H3 Q (E σ)) : tCaK C n m sp gV E ta t tk σ H Q := h
theorem rd_callNS {n m : Nat} {sp : Sp} {gV : List V → List V → List V} {E : L2.St → XK} {t tk : TA} {σ : L2.St} {H : Hp} {Q : VK} (h : t σ H fun vs H1 => tk σ H1 fun zs H2 => vs.length = n ∧ zs.length = m ∧ sp (gV vs zs) H2 Q (E σ)) : tCallNS n m sp gV E t tk σ H Q := h
/-- what the making of an instance asks -/
def MkG (C : Addr) (sp : Sp) (dvs vs : List V) (H1 : Hp) (Q : VK) (E : XK) : Prop := ∀ y dx, H1 y = none → H1 dx = none → dx ≠ y → sp (.ref y :: (vs ++ dvs)) (upd (upd H1 dx (.own y)) y (.ins C dx [])) (fun v H2 => v = .non ∧ Q (.ref y) H2) E
theorem rd_mkG {C : Addr} {sp : Sp} {dvs : List V} {EE : L2.St → XK} {t : TA} {σ : L2.St} {H : Hp} {Q : VK} (h : t σ H fun vs H1 => MkG C sp dvs vs H1 Q (EE σ)) : tMakeS C sp dvs EE t σ H Q := h
local macro_rules | `(tactic| walk_at "rd") => `(tactic| first
  | (with_reducible refine rd_mkG ?_) | (with_reducible refine rd_caO ?_) | (with_reducible refine rd_caK ?_) | (with_reducible refine rd_callNS ?_)
  | (with_reducible refine rd_own ?_) | (with_reducible refine rd_inO ?_) | (with_reducible refine rd_rmul ?_) | (with_reducible refine rd_sli ?_) | (with_reducible refine rd_gsubO ?_))

local macro_rules | `(tactic| walk_at "auto") => `(tactic| repeat (first
  | walk_at "rd"
  | ((with_reducible show if _ = true then _ else _); first | refine rd_iteB rfl ?_ | refine rd_iteC rfl ?_ | refine rd_dT (by first | omega | assumption) ?_ | refine rd_dF (by first | omega | assumption) ?_ | refine rd_nT (by first | omega | assumption) ?_ | refine rd_nF (by first | omega | assumption) ?_)))
local macro_rules | `(tactic| walk_at "st") => `(tactic| repeat ((fail_if_success (with_reducible show tSeq _ _ _ _ _)); first
  | walk_at "rd"
  | ((with_reducible show if _ = true then _ else _); first | refine rd_iteB rfl ?_ | refine rd_iteC rfl ?_ | refine rd_dT (by first | omega | assumption) ?_ | refine rd_dF (by first | omega | assumption) ?_ | refine rd_nT (by first | omega | assumption) ?_ | refine rd_nF (by first | omega | assumption) ?_)))
local macro_rules | `(tactic| walk_at "sq") => `(tactic| ((with_reducible show tSeq _ _ _ _ _); refine rd_seq ?_))
/-! whole numbers -/
theorem is_int_ok {i : Int} {H : Hp} {Q : VK} {E : XK} (h : Q (.bl true) H) : sp_law_is_int K [.int i] H Q E := by
  refine ⟨rfl, ?_⟩
  unfold t_law_is_int
  walk_at "go"
  refine isi_go (.ty _) (.base (.int i)) (kit_ty (r := true) (by decide +kernel)) ?_
  walk_at "all"
  refine isi_go (.ty _) (.base (.int i)) (kit_ty (r := false) (by decide +kernel)) ?_
  walk_at "go"
  exact h
/-! comprehensions over a list that only make new things -/
/-- a comprehension over the list x -/
def LcG (K : Frg) (x : V) (g : TG) (te : TE) (vs : List Nat) (σ : L2.St) (H1 : Hp) (Q : VK) : Prop := ∃ a, x = .ref a ∧ (∃ xs, SqL K H1 a xs) ∧
    ∀ D, H1 D = none → ∃ W : Nat → Nat → Hp → Prop, (∃ m, W 0 m (upd H1 D (.lst []))) ∧ ∀ i m H, W i m H →
      ((Itl K a).stop i H ∧ Q (.ref D) H) ∨ ((Itl K a).go i H ∧ ∃ Nx : Hp → Prop, (∀ H', Nx H' → ∃ m', m' < m ∧ W (i + 1) m' H') ∧ ∀ x H', (Itl K a).yld i H x H' → g x (wipe σ vs) H' fun σ2 H2 => wipe σ2 vs = wipe σ vs ∧ tYes σ2 H2 fun b H3 =>
        if b = true then te σ2 H3 fun y H4 => ∃ acc, H4 D = some (.lst acc) ∧ acc.length < sizeLine ∧ Nx (upd H4 D (.lst (acc ++ [y]))) else Nx H3)
theorem rd_lcL {tl : TE} {g : TG} {te : TE} {vs : List Nat} {σ : L2.St} {H : Hp} {Q : VK} (h : tl σ H fun x H1 => LcG K x g te vs σ H1 Q) : tLc (iList K tl) g tYes te vs σ H Q := h
local macro_rules | `(tactic| walk_at "rd") => `(tactic| (with_reducible refine rd_lcL ?_))
theorem word_ok {d : Addr} {z : Str} {lo hi : Int} {H : Hp} {Q : VK} {E : XK} (hz : 0 < z.length) (hz2 : z.length ≤ 1000) (h0 : 0 ≤ lo) (h1 : lo ≤ hi) (h2 : hi ≤ 1000) (hd : DrL H d)
    (h : ∀ (l : List Nat) H', (∀ c ∈ l, c ∈ z.cps.toList) → lo ≤ l.length → l.length ≤ hi → Keep d H H' → DrL H' d → Q (.str (tx l)) H') : sp_law_word_of K [.ref d, .str z, .int lo, .int hi] H Q E := by
  refine ⟨rfl, ?_⟩
  unfold t_law_word_of
  walk_at "go"
  refine pick_ok (by omega) hd fun r H1 r0 r1 k1 d1 => ?_
  walk_at "go"
  refine ⟨⟨_, rfl⟩, ?_⟩
  walk_at "go"
  refine ⟨lo + r, rfl, by omega, by omega, fun L hL => ?_⟩
  refine lcR (n := lo + r) (fun i H2 => ∃ cs : List Nat, H2 L = some (.lst (cs.map fun c => V.str (tx [c]))) ∧ cs.length = i ∧ (∀ c ∈ cs, c ∈ z.cps.toList) ∧ Keep d H1 H2 ∧ DrL H2 d) ⟨[], upd_same, rfl, by simp, Keep.new hL, d1.same (Same.new hL)⟩ ?_ ?_
  · rintro i H2 hi ⟨cs, eL, hl, hc, k2, d2⟩
    walk_at "go"
    refine ⟨rfl, ?_⟩
    walk_at "go"
    refine lenA_str (small2 (by omega)) ?_
    walk_at "go"
    refine pick_ok (by omega) d2 fun q H3 q0 q1 k3 d3 => ?_
    obtain ⟨n, rfl⟩ : ∃ n : Nat, q = n := ⟨q.toNat, by omega⟩
    have hn : n < z.cps.toList.length := by
      have : z.cps.toList.length = z.length := by simp [Str.length]
      omega
    have hLd : L ≠ d := fun e => by
      obtain ⟨ds, _, e2⟩ := d1
      rw [e] at hL
      rw [hL] at e2
      cases e2
    refine ixA_str (small2 (by omega)) (atI_nat (List.getElem?_eq_getElem hn)) ?_
    refine ⟨_, k3 _ _ hLd eL, by rw [List.length_map, sizeLine_eq]; omega, cs ++ [z.cps.toList[n]], by rw [upd_same]; simp [tx], by simp [hl], ?_, ?_, ?_⟩
    · intro c hc'
      rcases List.mem_append.mp hc' with m | m
      · exact hc c m
      · rw [List.mem_singleton.mp m]
        exact List.getElem_mem hn
    · intro b o n e
      have hbL : b ≠ L := fun e2 => by rw [e2, hL] at e; cases e
      rw [upd_ne hbL]
      exact k3 b o n (k2 b o n e)
    · obtain ⟨ds, a, b⟩ := d3
      exact ⟨ds, a, by rw [upd_ne (Ne.symm hLd)]; exact b⟩
  · rintro H2 ⟨cs, eL, hl, hc, k2, d2⟩
    have e1 : (cs.map fun c => V.str (tx [c])) = ((cs.map fun c => [c]).map tx).map V.str := by simp
    refine ⟨_, L, (cs.map fun c => [c]).map tx, rfl, rfl, .inl (SqL.of (by rw [eL, e1])), ?_, ?_⟩
    · have hs : (((cs.map fun c => [c]).map tx).map fun x => x.length) = List.replicate cs.length 1 := by
        rw [List.map_map, List.map_map]
        apply List.eq_replicate_iff.mpr
        refine ⟨by simp, fun b hb => ?_⟩
        obtain ⟨c, _, rfl⟩ := List.mem_map.mp hb
        rfl
      rw [hs]
      simp
      show cs.length + cs.length * 0 ≤ 16777216
      omega
    · rw [join_tx, flat_one]
      exact h cs H2 hc (by omega) (by omega) (k1.trans k2) d2
/-! letters drawn -/
theorem filter_ne_len : ∀ (L : List Nat) (c : Nat), L.Nodup → L.length ≤ (L.filter fun x => decide (x ≠ c)).length + 1
  | [], _, _ => Nat.zero_le _
  | x :: r, c, h => by
    have hx : x ∉ r := (List.nodup_cons.mp h).1
    have hr := (List.nodup_cons.mp h).2
    by_cases e : x = c
    · have : (r.filter fun y => decide (y ≠ c)) = r := List.filter_eq_self.mpr fun y hy => decide_eq_true fun q => hx (by rw [e, ← q]; exact hy)
      rw [List.filter_cons_of_neg (by simp [e]), this]
      exact Nat.le_refl _
    · have := filter_ne_len r c hr
      rw [List.filter_cons_of_pos (by simp [e]), List.length_cons, List.length_cons]
      omega
theorem filter_out_len : ∀ (s L : List Nat), L.Nodup → L.length ≤ (L.filter fun x => decide (x ∉ s)).length + s.length
  | [], L, _ => by
    have : (L.filter fun x => decide (x ∉ ([] : List Nat))) = L := List.filter_eq_self.mpr fun y _ => decide_eq_true (by simp)
    rw [this]
    exact Nat.le_refl _
  | c :: s, L, h => by
    have h1 := filter_out_len s L h
    have h2 := filter_ne_len (L.filter fun x => decide (x ∉ s)) c (h.filter _)
    rw [List.filter_filter] at h2
    have e : (L.filter fun x => decide (x ≠ c) && decide (x ∉ s)) = L.filter fun x => decide (x ∉ c :: s) := by
      apply List.filter_congr
      intro x _
      by_cases a : x = c <;> by_cases b : x ∈ s <;> simp [a, b]
    rw [e] at h2
    rw [List.length_cons]
    omega
theorem letters_nodup : letters.Nodup := by decide +kernel
theorem letters_len : letters.length = 26 := by decide +kernel
theorem alphabet_ok {d : Addr} {m : Int} {H : Hp} {Q : VK} {E : XK} (h0 : 0 ≤ m) (h1 : m ≤ 20) (hd : DrL H d)
    (h : ∀ (s : List Nat) H', s.length = m.toNat → (∀ c ∈ s, c ∈ letters) → s.Nodup → Keep d H H' → DrL H' d → Q (.str (tx s)) H') : sp_law_alphabet K [.ref d, .int m] H Q E := by
  refine ⟨rfl, ?_⟩
  unfold t_law_alphabet
  walk_at "go"
  refine ⟨m, rfl, by omega, by omega, ?_⟩
  have ee : (Str.ofString "") = tx [] := by decide +kernel
  have el : (Str.ofString "abcdefghijklmnopqrstuvwxyz") = tx letters := (tx_self _).symm
  refine forR (n := m) (fun i σ H2 => ∃ (s : List Nat) (v4 v5 v6 : Option V), σ = [some (.ref d), some (.int m), some (.str (tx letters)), some (.str (tx s)), v4, v5, v6] ∧ s.length = i ∧ (∀ c ∈ s, c ∈ letters) ∧ s.Nodup ∧ Keep d H H2 ∧ DrL H2 d)
    ⟨[], none, none, none, by rw [← el, ← ee]; rfl, rfl, by simp, by simp, Keep.refl, hd⟩ ?_ ?_
  · rintro i σ H2 hi ⟨s, v4, v5, v6, rfl, hl, hs, nd, k2, d2⟩
    walk_at "go"
    refine ⟨_, rfl, ?_⟩
    intro L hL
    refine lc_it (walk_str (z := tx letters)) (fun j H3 => Same H2 H3 ∧ H3 L = some (.lst (((letters.take j).filter fun x => decide (x ∉ s)).map fun c => V.str (tx [c])))) ⟨Same.new hL, by rw [upd_same]; rfl⟩ (fun _ _ _ _ => trivial) ?_ ?_
    · rintro j x H3 H4 hj ⟨s3, eL⟩ ⟨rfl, c, hc, rfl⟩
      rw [tx_get] at hc
      have hlt := (List.getElem?_eq_some_iff.mp hc).1
      have etk : letters.take (j + 1) = letters.take j ++ [c] := by
        rw [List.take_succ_eq_append_getElem hlt, (List.getElem?_eq_some_iff.mp hc).2]
      walk_at "go"
      refine ⟨rfl, ?_⟩
      walk_at "go"
      refine notInA_sign ?_
      refine ⟨_, rfl, ?_⟩
      rw [tx_toList]
      refine rd_iteN (fun cs => ?_) (fun cs => ?_)
      · walk_at "go"
        refine ⟨_, eL, by rw [List.length_map, sizeLine_eq]; have := List.length_filter_le (fun x => decide (x ∉ s)) (letters.take j); have := List.length_take_le j letters; have := letters_len; omega, fun b o e => ?_, ?_⟩
        · rw [upd_ne (ne_of_none e hL)]
          exact s3 _ _ e
        · rw [upd_same, etk, List.filter_append, List.map_append]
          have e1 : ([c].filter fun x => decide (x ∉ s)) = [c] := by simp [cs]
          rw [e1]
          rfl
      · refine ⟨s3, ?_⟩
        have e1 : ([c].filter fun x => decide (x ∉ s)) = [] := by simp [cs]
        rw [eL, etk, List.filter_append, e1, List.append_nil]
    · rintro H3 ⟨s3, eL⟩
      have ez : (tx letters).cps.size = letters.length := tx_len letters
      rw [ez, List.take_length] at eL
      have fl := filter_out_len s letters letters_nodup
      rw [letters_len] at fl
      have d3 := d2.same s3
      have Ld : L ≠ d := fun q => by
        obtain ⟨_, _, e⟩ := d2
        rw [q] at hL
        rw [hL] at e
        cases e
      walk_at "go"
      refine lenA_lst (.of eL) ?_
      rw [List.length_map]
      walk_at "go"
      refine pick_ok (by omega) d3 fun q H4 q0 q1 k4 d4 => ?_
      obtain ⟨n, rfl⟩ : ∃ n : Nat, q = n := ⟨q.toNat, by omega⟩
      have hn : n < (letters.filter fun x => decide (x ∉ s)).length := by omega
      have hmem := List.mem_filter.mp (List.getElem_mem hn)
      refine ixA_lst (.of (k4 _ _ Ld eL)) (atI_nat (by rw [List.getElem?_map, List.getElem?_eq_getElem hn]; rfl)) ?_
      refine addA_str (by rw [tx_len, tx_len]; exact small2 (by simp; omega)) ?_
      rw [tx_app]
      walk_at "go"
      refine ⟨s ++ [_], _, _, _, rfl, by rw [List.length_append, hl]; rfl, fun c hc => ?_, ?_, ((k2.trans (Keep.same s3)).trans k4), d4⟩
      · rcases List.mem_append.mp hc with z | z
        · exact hs c z
        · rw [List.mem_singleton.mp z]; exact hmem.1
      · refine List.nodup_append.mpr ⟨nd, by simp, fun a ha b hb e => ?_⟩
        rw [List.mem_singleton.mp hb] at e
        have := of_decide_eq_true hmem.2
        rw [← e] at this
        exact this ha
  · rintro σ H2 ⟨s, v4, v5, v6, rfl, hl, hs, nd, k2, d2⟩
    walk_at "go"
    exact h s H2 hl hs nd k2 d2
/-! readings of dicts, methods without arguments, truth, loops -/
theorem rd_dget {td ty : TE} {σ : L2.St} {H : Hp} {Q : VK} (h : td σ H fun x H1 => ty σ H1 fun y H2 => ∃ a v, x = .ref a ∧ DGet H2 a y (some v) ∧ Q v H2) : tDGet td ty σ H Q := h
theorem rd_dget2 {td ty tx : TE} {σ : L2.St} {H : Hp} {Q : VK} (h : td σ H fun x H1 => ∃ a, x = .ref a ∧ IsD H1 a ∧ ty σ H1 fun y H2 => tx σ H2 fun z H3 => ∃ o, DGet H3 a y o ∧ Q (o.getD z) H3) : tDGet2 td ty tx σ H Q := h
theorem rd_din {ty td : TE} {σ : L2.St} {H : Hp} {Q : VK} (h : ty σ H fun y H1 => td σ H1 fun x H2 => ∃ a o, x = .ref a ∧ DGet H2 a y o ∧ Q (.bl o.isSome) H2) : tDIn ty td σ H Q := h
theorem rd_dnin {ty td : TE} {σ : L2.St} {H : Hp} {Q : VK} (h : ty σ H fun y H1 => td σ H1 fun x H2 => ∃ a o, x = .ref a ∧ DGet H2 a y o ∧ Q (.bl (!o.isSome)) H2) : tDNotIn ty td σ H Q := h
theorem rd_dput {td ty tv : TE} {D : Ends} {σ : L2.St} {H : Hp} (h : tv σ H fun v H1 => td σ H1 fun x H2 => ty σ H2 fun y H3 => ∃ a H4, x = .ref a ∧ DPut H3 a y v H4 ∧ D.nx σ H4) : sDPut td ty tv D σ H := h
theorem rd_dsetd {td ty tx : TE} {σ : L2.St} {H : Hp} {Q : VK} (h : td σ H fun x H1 => ∃ a, x = .ref a ∧ IsD H1 a ∧ ty σ H1 fun y H2 => tx σ H2 fun z H3 => ∃ (kvs : List (Key × V)) (k : Key), H3 a = some (.dK kvs) ∧ y = kV k ∧ kvs.length < sizeLine ∧
  (∀ v, valV kvs k = some v → Q v H3) ∧ (valV kvs k = none → Q z (upd H3 a (.dK (putK kvs k z))))) : tDSetd td ty tx σ H Q := h
theorem rd_dnewK {σ : L2.St} {H : Hp} {Q : VK} (h : ∀ p, H p = none → Q (.ref p) (upd H p (.dK []))) : tDNewK σ H Q := h
theorem rd_dnewT {σ : L2.St} {H : Hp} {Q : VK} (h : ∀ p, H p = none → Q (.ref p) (upd H p (.dT []))) : tDNewT σ H Q := h
theorem rd_bm0 {K : Frg} {T : String} {r : V → List V → Hp → VK → Prop} {to : TE} {σ : L2.St} {H : Hp} {Q : VK} (h : to σ H fun x H1 => tyV K T x H1 ∧ r x [] H1 Q) : tBM0 K T r to σ H Q := h
theorem rd_truthL {ta : TE} {σ : L2.St} {H : Hp} {B : Bool → Hp → Prop} (h : ta σ H fun x H' => ∃ k, TruV K x H' k ∧ B k H') : tTruth K ta σ H B := h
theorem rd_mkV {C : Addr} {sp : Sp} {dvs : List V} {E : L2.St → XK} {ta : TE} {t : TA} {σ : L2.St} {H : Hp} {Q : VK} (h : ta σ H fun y H1 => y = .ref C ∧ tMakeS C sp dvs E t σ H1 Q) : tMakeV C sp dvs E ta t σ H Q := h
theorem rd_cms {C : Addr} {sp : Sp} {E : L2.St → XK} {ta : TE} {t : TA} {σ : L2.St} {H : Hp} {Q : VK} (h : ta σ H fun x H1 => x = .ref C ∧ t σ H1 fun vs H2 => sp (.ref C :: vs) H2 Q (E σ)) : tCMS C sp E ta t σ H Q := h
local macro_rules | `(tactic| walk_at "rd") => `(tactic| first
  | (with_reducible refine rd_dget ?_) | (with_reducible refine rd_dget2 ?_) | (with_reducible refine rd_din ?_) | (with_reducible refine rd_dnin ?_) | (with_reducible refine rd_dput ?_) | (with_reducible refine rd_dsetd ?_) | (with_reducible refine rd_dnewK ?_) | (with_reducible refine rd_dnewT ?_)
  | (with_reducible refine rd_bm0 ?_) | (with_reducible refine rd_truthL ?_) | (with_reducible refine rd_mkV ?_) | (with_reducible refine rd_cms ?_))
/-- only what stands in fp is changed; what stands in fp' was in it or is new -/
structure Frm (fp : List Addr) (H H' : Hp) (fp' : List Addr) : Prop where
  keep : ∀ b o, b ∉ fp → H b = some o → H' b = some o
  from_ : ∀ b ∈ fp', b ∈ fp ∨ H b = none
theorem Frm.refl {fp : List Addr} {H : Hp} : Frm fp H H fp := ⟨fun _ _ _ e => e, fun _ h => .inl h⟩
theorem Frm.trans {fp f1 f2 : List Addr} {H H1 H2 : Hp} (a : Frm fp H H1 f1) (b : Frm f1 H1 H2 f2) : Frm fp H H2 f2 := by
  refine ⟨fun c o n e => b.keep c o (fun m => ?_) (a.keep c o n e), fun c m => ?_⟩
  · rcases a.from_ c m with z | z
    · exact n z
    · rw [e] at z; cases z
  · rcases b.from_ c m with z | z
    · exact a.from_ c z
    · by_cases n : c ∈ fp
      · exact .inl n
      · refine .inr ?_
        cases e : H c with
        | none => rfl
        | some o => rw [a.keep c o n e] at z; cases z
theorem Frm.same {fp : List Addr} {H H1 : Hp} (s : Same H H1) : Frm fp H H1 fp := ⟨fun b o _ e => s b o e, fun _ h => .inl h⟩
theorem Frm.disj {fp fp' g : List Addr} {H H' : Hp} (a : Frm fp H H' fp') (hg : ∀ b ∈ g, ∃ o, H b = some o) (d : ∀ b ∈ g, b ∉ fp) : ∀ b ∈ g, b ∉ fp' := fun b hb m => by
  rcases a.from_ b m with z | z
  · exact d b hb z
  · obtain ⟨o, e⟩ := hg b hb
    rw [e] at z; cases z
/-! dicts of lists of ints: the key, the list's place, its items -/
abbrev DLE := Int × Addr × List Int
def gr : List DLE → Int → List Int
  | [], _ => []
  | e :: r, i => if e.1 = i then e.2.2 else gr r i
def dlK (ks : List DLE) : List (Key × V) := ks.map fun e => (.inl e.1, .ref e.2.1)
def dlA (ks : List DLE) : List Addr := ks.map fun e => e.2.1
def dlTot (ks : List DLE) : Nat := (ks.map fun e => e.2.2.length).sum
structure DL (H : Hp) (d : Addr) (ks : List DLE) : Prop where
  dk : H d = some (.dK (dlK ks))
  ls : ∀ e ∈ ks, H e.2.1 = some (.lst (e.2.2.map V.int))
  kd : (ks.map fun e => e.1).Nodup
  ad : (dlA ks).Nodup
theorem DL.keep {H H' : Hp} {d : Addr} {ks : List DLE} (h : DL H d ks) (k : ∀ b o, b ∈ d :: dlA ks → H b = some o → H' b = some o) : DL H' d ks :=
  ⟨k _ _ List.mem_cons_self h.dk, fun e he => k _ _ (List.mem_cons_of_mem _ (List.mem_map.mpr ⟨e, he, rfl⟩)) (h.ls e he), h.kd, h.ad⟩
theorem DL.same {H H' : Hp} {d : Addr} {ks : List DLE} (h : DL H d ks) (s : Same H H') : DL H' d ks := h.keep fun b o _ e => s b o e
theorem DL.there {H : Hp} {d : Addr} {ks : List DLE} (h : DL H d ks) : ∀ b ∈ d :: dlA ks, ∃ o, H b = some o := fun b hb => by
  rcases List.mem_cons.mp hb with e | e
  · rw [e]; exact ⟨_, h.dk⟩
  · obtain ⟨x, hx, rfl⟩ := List.mem_map.mp e
    exact ⟨_, h.ls x hx⟩
theorem DL.ne {H : Hp} {d : Addr} {ks : List DLE} (h : DL H d ks) : d ∉ dlA ks := fun m => by
  obtain ⟨x, hx, e⟩ := List.mem_map.mp m
  have q := h.ls x hx
  rw [show x.2.1 = d from e, h.dk] at q
  cases q
theorem DL.new {H : Hp} {p : Addr} : DL (upd H p (.dK [])) p [] := ⟨upd_same, fun _ h => (nomatch h), List.Pairwise.nil, List.Pairwise.nil⟩
/-- what the dict gives at a key -/
theorem dl_val : ∀ (ks : List DLE) (i : Int), (valV (dlK ks) (.inl i) = none ∧ gr ks i = [] ∧ ∀ e ∈ ks, e.1 ≠ i) ∨ ∃ a l, (i, a, l) ∈ ks ∧ valV (dlK ks) (.inl i) = some (.ref a) ∧ gr ks i = l
  | [], _ => .inl ⟨rfl, rfl, fun _ h => (nomatch h)⟩
  | e :: r, i => by
    by_cases h : e.1 = i
    · refine .inr ⟨e.2.1, e.2.2, ?_, ?_, ?_⟩
      · rw [← h]; exact List.mem_cons_self
      · exact valV_pos (p := ((.inl e.1 : Key), V.ref e.2.1)) (by rw [h])
      · unfold gr; rw [if_pos h]
    · have hv : valV (dlK (e :: r)) (.inl i) = valV (dlK r) (.inl i) := valV_neg (p := ((.inl e.1 : Key), V.ref e.2.1)) (fun q => h (Sum.inl.inj q))
      have hg : gr (e :: r) i = gr r i := by rw [gr, if_neg h]
      rw [hv, hg]
      rcases dl_val r i with ⟨h1, h2, h3⟩ | ⟨a, l, h1, h2, h3⟩
      · refine .inl ⟨h1, h2, fun x hx => ?_⟩
        rcases List.mem_cons.mp hx with q | q
        · rw [q]; exact h
        · exact h3 x q
      · exact .inr ⟨a, l, List.mem_cons_of_mem _ h1, h2, h3⟩
theorem gr_mid : ∀ {pre post : List DLE} {s : Int} {a : Addr} {l : List Int} {x : Int}, (∀ e ∈ pre, e.1 ≠ s) → gr (pre ++ (s, a, l) :: post) x = if x = s then l else gr (pre ++ post) x
  | [], post, s, a, l, x, _ => by
    rw [List.nil_append, List.nil_append, gr]
    by_cases h : s = x
    · rw [if_pos h, if_pos h.symm]
    · rw [if_neg h, if_neg (fun q => h q.symm)]
  | e :: pre, post, s, a, l, x, h => by
    rw [List.cons_append, List.cons_append, gr, gr]
    by_cases q : e.1 = x
    · rw [if_pos q, if_pos q, if_neg (fun z => h e List.mem_cons_self (q.trans z))]
    · rw [if_neg q, if_neg q]
      exact gr_mid fun y hy => h y (List.mem_cons_of_mem _ hy)
theorem dlTot_len {ks : List DLE} {e : DLE} (h : e ∈ ks) : e.2.2.length ≤ dlTot ks := by
  induction ks with
  | nil => cases h
  | cons x r ih =>
    unfold dlTot at ih ⊢
    rw [List.map_cons, List.sum_cons]
    rcases List.mem_cons.mp h with q | q
    · rw [q]; omega
    · have := ih q; omega
theorem dlTot_app (a b : List DLE) : dlTot (a ++ b) = dlTot a + dlTot b := by simp [dlTot]
theorem dlTot_one (e : DLE) (r : List DLE) : dlTot (e :: r) = e.2.2.length + dlTot r := by simp [dlTot]
/-- d.setdefault(s, []).append(g) -/
theorem dl_push {td ty tg : TE} {d : Addr} {ks : List DLE} {s g : Int} {D : Ends} {σ : L2.St} {H : Hp} (h1 : ∀ H1 Q, Q (.ref d) H1 → td σ H1 Q) (h2 : ∀ H1 Q, Q (.int s) H1 → ty σ H1 Q) (h3 : ∀ H1 Q, Q (.int g) H1 → tg σ H1 Q)
    (hD : DL H d ks) (hn : ks.length + dlTot ks < 1000000)
    (h : ∀ H' ks', DL H' d ks' → (∀ x, gr ks' x = if x = s then gr ks x ++ [g] else gr ks x) → Frm (d :: dlA ks) H H' (d :: dlA ks') → ks'.length ≤ ks.length + 1 → dlTot ks' = dlTot ks + 1 → D.nx σ H') :
    tDrop (tBM K "list" rAppend (tDSetd td ty (tLst tNil)) (tCons tg tNil)) D σ H := by
  refine rd_drop (rd_bm (rd_dsetd (h1 _ _ ?_)))
  refine ⟨d, rfl, .inl ⟨_, .inl hD.dk⟩, h2 _ _ (rd_lst (rd_nil ⟨Nat.zero_le _, fun p hp => ?_⟩))⟩
  have dp : d ≠ p := ne_of_none hD.dk hp
  have keep0 : ∀ b o, H b = some o → upd H p (.lst []) b = some o := fun b o e => by rw [upd_ne (ne_of_none e hp)]; exact e
  refine ⟨dlK ks, .inl s, keep0 _ _ hD.dk, rfl, by unfold dlK; rw [List.length_map, sizeLine_eq]; omega, fun v hv => ?_, fun hv => ?_⟩
  · rcases dl_val ks s with ⟨q, _⟩ | ⟨a, l, hm, q, hg⟩
    · rw [q] at hv; cases hv
    · rw [q] at hv
      cases hv
      obtain ⟨pre, post, e⟩ := List.append_of_mem hm
      have hl := hD.ls _ hm
      have ap : a ≠ p := ne_of_none hl hp
      refine ⟨tyL (keep0 _ _ hl), rd_cons (h3 _ _ (rd_nil ?_))⟩
      have lt : l.length ≤ dlTot ks := dlTot_len hm
      have hma : a ∈ dlA ks := List.mem_map.mpr ⟨_, hm, rfl⟩
      refine append_go (keep0 _ _ hl) (by rw [List.length_map]; show l.length < _; omega) ?_
      have kd := hD.kd
      have ad := hD.ad
      rw [e, List.map_append, List.map_cons] at kd
      unfold dlA at ad
      rw [e, List.map_append, List.map_cons] at ad
      obtain ⟨kd1, kd2, kd3⟩ := List.nodup_append.mp kd
      obtain ⟨ad1, ad2, ad3⟩ := List.nodup_append.mp ad
      have npre : ∀ x ∈ pre, x.1 ≠ s := fun x hx => kd3 _ (List.mem_map.mpr ⟨x, hx, rfl⟩) _ List.mem_cons_self
      have apre : ∀ x ∈ pre, x.2.1 ≠ a := fun x hx => ad3 _ (List.mem_map.mpr ⟨x, hx, rfl⟩) _ List.mem_cons_self
      have apost : ∀ x ∈ post, x.2.1 ≠ a := fun x hx z => (List.nodup_cons.mp ad2).1 (List.mem_map.mpr ⟨x, hx, z⟩)
      have eK : dlK (pre ++ (s, a, l ++ [g]) :: post) = dlK ks := by rw [e]; simp [dlK]
      have eA : dlA (pre ++ (s, a, l ++ [g]) :: post) = dlA ks := by rw [e]; simp [dlA]
      have old : ∀ x ∈ ks, x.2.1 ≠ a → upd (upd H p (.lst [])) a (.lst (l.map V.int ++ [V.int g])) x.2.1 = some (.lst (x.2.2.map V.int)) := fun x hx n => by
        rw [upd_ne n]
        exact keep0 _ _ (hD.ls x hx)
      refine h _ (pre ++ (s, a, l ++ [g]) :: post) ⟨?_, fun x hx => ?_, ?_, ?_⟩ (fun x => ?_) ⟨fun b o n q => ?_, fun b hb => .inl (by rw [eA] at hb; exact hb)⟩ ?_ ?_
      · rw [eK, upd_ne (fun z => hD.ne (by rw [z]; exact hma))]
        exact keep0 _ _ hD.dk
      · rcases List.mem_append.mp hx with z | z
        · exact old x (by rw [e]; exact List.mem_append_left _ z) (apre x z)
        · rcases List.mem_cons.mp z with z | z
          · subst z
            show upd _ a _ a = _
            rw [upd_same, List.map_append]
            rfl
          · exact old x (by rw [e]; exact List.mem_append_right _ (List.mem_cons_of_mem _ z)) (apost x z)
      · rw [List.map_append, List.map_cons]
        exact kd
      · rw [eA]; exact hD.ad
      · rw [gr_mid npre, e, gr_mid npre]
        by_cases z : x = s
        · rw [if_pos z, if_pos z, if_pos z]
        · rw [if_neg z, if_neg z, if_neg z]
      · rw [upd_ne (fun z => n (List.mem_cons_of_mem _ (by rw [z]; exact hma)))]
        exact keep0 _ _ q
      · rw [e]; simp
      · rw [e, dlTot_app, dlTot_app, dlTot_one, dlTot_one, List.length_append]
        simp
        omega
  · rcases dl_val ks s with ⟨q, hg, hne⟩ | ⟨a, l, hm, q, hg⟩
    · have ed : putK (dlK ks) (.inl s) (.ref p) = dlK (ks ++ [(s, p, [])]) := by rw [putK_new _ hv]; simp [dlK]
      have pA : p ∉ dlA ks := fun m => by
        obtain ⟨x, hx, z⟩ := List.mem_map.mp m
        have := hD.ls x hx
        rw [show x.2.1 = p from z, hp] at this
        cases this
      have pd : p ≠ d := Ne.symm dp
      have eP : upd (upd H p (.lst [])) d (.dK (putK (dlK ks) (.inl s) (.ref p))) p = some (.lst []) := by rw [upd_ne pd, upd_same]
      refine ⟨tyL eP, rd_cons (h3 _ _ (rd_nil ?_))⟩
      refine append_go eP (by decide) ?_
      refine h _ (ks ++ [(s, p, [g])]) ⟨?_, fun x hx => ?_, ?_, ?_⟩ (fun x => ?_) ⟨fun b o n q => ?_, fun b hb => ?_⟩ ?_ ?_
      · rw [upd_ne dp, upd_same, ed]
        simp [dlK]
      · rcases List.mem_append.mp hx with z | z
        · have n1 : x.2.1 ≠ p := fun w => pA (w ▸ List.mem_map.mpr ⟨x, z, rfl⟩)
          have n2 : x.2.1 ≠ d := fun w => hD.ne (w ▸ List.mem_map.mpr ⟨x, z, rfl⟩)
          rw [upd_ne n1, upd_ne n2, upd_ne n1]
          exact hD.ls x z
        · rw [List.mem_singleton.mp z]
          show upd _ p _ p = _
          rw [upd_same]
          rfl
      · rw [List.map_append]
        refine List.nodup_append.mpr ⟨hD.kd, by simp, fun y hy z hz w => ?_⟩
        obtain ⟨x, hx, rfl⟩ := List.mem_map.mp hy
        rw [List.mem_singleton.mp hz] at w
        exact hne x hx w
      · unfold dlA
        rw [List.map_append]
        refine List.nodup_append.mpr ⟨hD.ad, by simp, fun y hy z hz w => ?_⟩
        rw [List.mem_singleton.mp hz] at w
        exact pA (by rw [← show y = p from w]; exact hy)
      · have := gr_mid (pre := ks) (post := []) (s := s) (a := p) (l := [g]) (x := x) hne
        rw [List.append_nil] at this
        rw [this]
        by_cases z : x = s
        · rw [if_pos z, if_pos z, z, hg]; rfl
        · rw [if_neg z, if_neg z]
      · have nd : b ≠ d := fun z => n (z ▸ List.mem_cons_self)
        rw [upd_ne (ne_of_none q hp), upd_ne nd]
        exact keep0 _ _ q
      · rcases List.mem_cons.mp hb with z | z
        · exact .inl (z ▸ List.mem_cons_self)
        · unfold dlA at z
          rw [List.map_append] at z
          rcases List.mem_append.mp z with z | z
          · exact .inl (List.mem_cons_of_mem _ z)
          · exact .inr (by rw [List.mem_singleton.mp z]; exact hp)
      · simp
      · rw [dlTot_app, dlTot_one]; simp [dlTot]
    · rw [q] at hv; cases hv
/-! the states that are reached -/
inductive Rch (f : Int → List Int) (S : List Int) : Int → Prop
  | s {x : Int} : x ∈ S → Rch f S x
  | e {x y : Int} : Rch f S x → y ∈ f x → Rch f S y
/-- what may still be put into the queue -/
def phi (ks : List DLE) (fs : List Int) : Nat := ((ks.filter fun e => decide (e.1 ∉ fs)).map fun e => e.2.2.length).sum
theorem phi_le : ∀ (ks : List DLE) (fs : List Int), phi ks fs ≤ dlTot ks
  | [], _ => Nat.le_refl _
  | e :: r, fs => by
    have ih := phi_le r fs
    unfold phi at ih ⊢
    rw [dlTot_one]
    by_cases h : e.1 ∉ fs
    · rw [List.filter_cons_of_pos (by simp [h]), List.map_cons, List.sum_cons]; omega
    · rw [List.filter_cons_of_neg (by simpa using h)]; omega
theorem phi_other : ∀ (ks : List DLE) (fs : List Int) (i : Int), (∀ e ∈ ks, e.1 ≠ i) → phi ks (fs ++ [i]) = phi ks fs
  | [], _, _, _ => rfl
  | e :: r, fs, i, h => by
    have ih := phi_other r fs i fun x hx => h x (List.mem_cons_of_mem _ hx)
    have he := h e List.mem_cons_self
    unfold phi at ih ⊢
    by_cases q : e.1 ∈ fs
    · rw [List.filter_cons_of_neg (by simp [q]), List.filter_cons_of_neg (by simp [q]), ih]
    · rw [List.filter_cons_of_pos (by simp [q, he]), List.filter_cons_of_pos (by simp [q]), List.map_cons, List.map_cons, List.sum_cons, List.sum_cons, ih]
theorem phi_add : ∀ (ks : List DLE) (fs : List Int) (i : Int), (ks.map fun e => e.1).Nodup → i ∉ fs → phi ks (fs ++ [i]) + (gr ks i).length = phi ks fs
  | [], _, _, _, _ => rfl
  | e :: r, fs, i, nd, hi => by
    obtain ⟨n1, n2⟩ := List.nodup_cons.mp nd
    by_cases h : e.1 = i
    · have ho := phi_other r fs i fun x hx q => n1 (List.mem_map.mpr ⟨x, hx, q.trans h.symm⟩)
      unfold phi at ho ⊢
      rw [gr, if_pos h, List.filter_cons_of_neg (by simp [h]), List.filter_cons_of_pos (by simp [h, hi]), List.map_cons, List.sum_cons, ho]
      omega
    · have ih := phi_add r fs i n2 hi
      unfold phi at ih ⊢
      rw [gr, if_neg h]
      by_cases q : e.1 ∈ fs
      · rw [List.filter_cons_of_neg (by simp [q]), List.filter_cons_of_neg (by simp [q])]; exact ih
      · rw [List.filter_cons_of_pos (by simp [q, h]), List.filter_cons_of_pos (by simp [q]), List.map_cons, List.map_cons, List.sum_cons, List.sum_cons]; omega
/-- a dict of True -/
def trK (fs : List Int) : List (Key × V) := fs.map fun i => (.inl i, .bl true)
theorem tr_val : ∀ (fs : List Int) (i : Int), (valV (trK fs) (.inl i)).isSome = decide (i ∈ fs)
  | [], _ => by simp [trK, valV]
  | j :: r, i => by
    by_cases h : j = i
    · rw [show valV (trK (j :: r)) (.inl i) = some (.bl true) from valV_pos (p := ((.inl j : Key), V.bl true)) (by rw [h])]
      simp [h]
    · rw [show valV (trK (j :: r)) (.inl i) = valV (trK r) (.inl i) from valV_neg (p := ((.inl j : Key), V.bl true)) (fun q => h (Sum.inl.inj q)), tr_val r i]
      simp [Ne.symm h]
theorem tr_put {fs : List Int} {i : Int} (h : i ∉ fs) : putK (trK fs) (.inl i) (.bl true) = trK (fs ++ [i]) := by
  have e : valV (trK fs) (.inl i) = none := by
    have := tr_val fs i
    rw [decide_eq_false h] at this
    cases q : valV (trK fs) (.inl i) with
    | none => rfl
    | some x => rw [q] at this; cases this
  rw [putK_new _ e]
  simp [trK]
theorem ints_last {qs : List Int} {y : Int} (h : qs = qs.dropLast ++ [y]) : (qs.map V.int)[(qs.map V.int).length - 1]? = some (.int y) := by
  rw [h]
  simp
/-- reached(starts, arrows) -/
theorem reached_ok {a d : Addr} {ss : List Int} {ks : List DLE} {H : Hp} {Q : VK} {E : XK} (hS : SqL K H a (ss.map V.int)) (hD : DL H d ks) (hn : ss.length + dlTot ks ≤ 1000000)
    (h : ∀ p H' (fs : List Int), Same H H' → H p = none → H' p = some (.dK (trK fs)) → fs.Nodup → (∀ i, i ∈ fs ↔ Rch (gr ks) ss i) → Q (.ref p) H') : sp_reached K [.ref a, .ref d] H Q E := by
  refine ⟨rfl, ?_⟩
  unfold t_reached
  walk_at "sq"
  walk_at "st"
  intro F hF
  walk_at "st"
  walk_at "sq"
  walk_at "st"
  have sF := Same.new (o := .dK []) hF
  refine ⟨a, _, rfl, .inl (sF.seq hS), fun L hL => ?_⟩
  walk_at "st"
  have sL := Same.new (o := .lst (ss.map V.int)) hL
  have FL : F ≠ L := ne_of_none (show upd H F (.dK []) F = some (.dK []) from upd_same) hL
  have HL : H L = none := by rw [upd_ne (Ne.symm FL)] at hL; exact hL
  walk_at "sq"
  refine ⟨fun m σ H2 => ∃ (fs qs : List Int) (v4 v5 : Option V), m = qs.length + phi ks fs ∧ σ = [some (.ref a), some (.ref d), some (.ref F), some (.ref L), v4, v5] ∧ (∀ b o, H b = some o → H2 b = some o) ∧ H2 F = some (.dK (trK fs)) ∧ H2 L = some (.lst (qs.map V.int)) ∧ fs.Nodup ∧ m ≤ 1000000 ∧ fs.length ≤ 1000000 - m ∧
    (∀ i ∈ fs, Rch (gr ks) ss i) ∧ (∀ i ∈ qs, Rch (gr ks) ss i) ∧ (∀ i ∈ ss, i ∈ fs ∨ i ∈ qs) ∧ (∀ i ∈ fs, ∀ y ∈ gr ks i, y ∈ fs ∨ y ∈ qs), ⟨_, [], ss, none, none, rfl, rfl, fun b o e => sL _ _ (sF _ _ e), ?_, upd_same, List.Pairwise.nil, ?_, ?_, fun _ h => (nomatch h), fun i hi => .s hi, fun i hi => .inr hi, fun _ h => (nomatch h)⟩, ?_⟩
  · rw [upd_ne FL, upd_same]; rfl
  · have := phi_le ks []; omega
  · simp
  rintro m σ H2 ⟨fs, qs, v4, v5, rfl, rfl, k2, eF, eL, nd, mb, fb, r1, r2, c1, c2⟩
  walk_at "st"
  refine ⟨_, .inl ⟨_, .of eL, rfl⟩, ?_⟩
  cases qs with
  | nil =>
    refine rd_iteF ?_
    walk_at "st"
    refine h F H2 fs k2 hF eF nd fun i => ⟨r1 i, fun z => ?_⟩
    induction z with
    | s hx => exact (c1 _ hx).elim id fun q => (nomatch q)
    | e hx hy ih => exact (c2 _ ih _ hy).elim id fun q => (nomatch q)
  | cons q0 q1 =>
    obtain ⟨y, ey⟩ : ∃ y, (q0 :: q1) = (q0 :: q1).dropLast ++ [y] := ⟨(q0 :: q1).getLast (by simp), (List.dropLast_concat_getLast (by simp)).symm⟩
    generalize q0 :: q1 = qs at *
    have qne : qs ≠ [] := fun z => by rw [z] at ey; simp at ey
    have elen : qs.length = qs.dropLast.length + 1 := by
      have := congrArg List.length ey
      rw [List.length_append] at this
      exact this
    have ymem : y ∈ qs := by rw [ey]; simp
    refine rd_iteB (by simp [qne]) ?_
    have dsub : ∀ i ∈ qs.dropLast, i ∈ qs := fun i hi => List.dropLast_subset _ hi
    have split : ∀ i ∈ qs, i ∈ qs.dropLast ∨ i = y := fun i hi => by
      rw [ey] at hi
      rcases List.mem_append.mp hi with z | z
      · exact .inl z
      · exact .inr (List.mem_singleton.mp z)
    have mapd : (qs.map V.int).dropLast = qs.dropLast.map V.int := by rw [List.map_dropLast]
    have base : ∀ b o, H b = some o → upd H2 L (.lst ((qs.map V.int).dropLast)) b = some o := fun b o e => by rw [upd_ne (ne_of_none e HL)]; exact k2 _ _ e
    have eF1 : upd H2 L (.lst ((qs.map V.int).dropLast)) F = some (.dK (trK fs)) := by rw [upd_ne FL]; exact eF
    refine ⟨fun σ' H' => ∃ m', m' < qs.length + phi ks fs ∧ (fun m σ H2 => ∃ (fs qs : List Int) (v4 v5 : Option V), m = qs.length + phi ks fs ∧ σ = [some (.ref a), some (.ref d), some (.ref F), some (.ref L), v4, v5] ∧ (∀ b o, H b = some o → H2 b = some o) ∧ H2 F = some (.dK (trK fs)) ∧ H2 L = some (.lst (qs.map V.int)) ∧ fs.Nodup ∧ m ≤ 1000000 ∧ fs.length ≤ 1000000 - m ∧
      (∀ i ∈ fs, Rch (gr ks) ss i) ∧ (∀ i ∈ qs, Rch (gr ks) ss i) ∧ (∀ i ∈ ss, i ∈ fs ∨ i ∈ qs) ∧ (∀ i ∈ fs, ∀ y ∈ gr ks i, y ∈ fs ∨ y ∈ qs)) m' σ' H', fun σ' H' z => z, ?_⟩
    walk_at "sq"
    walk_at "st"
    refine ⟨tyL eL, L, _, .int y, rfl, rfl, eL, ints_last ey, ?_⟩
    walk_at "st"
    refine ⟨F, _, rfl, DGet.k (k := .inl y) eF1, ?_⟩
    refine ⟨_, rfl, ?_⟩
    rw [tr_val]
    refine rd_iteN (fun hy => ?_) (fun hy => ?_)
    · walk_at "sq"
      walk_at "st"
      refine ⟨F, _, rfl, DPut.k (k := .inl y) eF1 (by unfold trK; rw [List.length_map, sizeLine_eq]; omega), ?_⟩
      rw [tr_put hy]
      walk_at "st"
      have e2L : upd (upd H2 L (.lst ((qs.map V.int).dropLast))) F (.dK (trK (fs ++ [y]))) L = some (.lst (qs.dropLast.map V.int)) := by rw [upd_ne (Ne.symm FL), upd_same, mapd]
      have e2F : upd (upd H2 L (.lst ((qs.map V.int).dropLast))) F (.dK (trK (fs ++ [y]))) F = some (.dK (trK (fs ++ [y]))) := upd_same
      have base2 : ∀ b o, H b = some o → upd (upd H2 L (.lst ((qs.map V.int).dropLast))) F (.dK (trK (fs ++ [y]))) b = some o := fun b o e => by rw [upd_ne (ne_of_none e hF)]; exact base b o e
      generalize upd (upd H2 L (.lst ((qs.map V.int).dropLast))) F (.dK (trK (fs ++ [y]))) = H3 at e2L e2F base2 ⊢
      refine ⟨tyL e2L, ?_⟩
      walk_at "st"
      have D3 : DL H3 d ks := hD.keep fun b o _ e => base2 b o e
      refine ⟨d, rfl, .inl ⟨_, .inl D3.dk⟩, ?_⟩
      walk_at "st"
      intro p hp
      have sp := Same.new (o := .lst []) hp
      have pv : ∃ (q : Addr), ((valV (dlK ks) (.inl y)).getD (.ref p)) = .ref q ∧ upd H3 p (.lst []) q = some (.lst ((gr ks y).map V.int)) := by
        rcases dl_val ks y with ⟨z1, z2, _⟩ | ⟨b, l, z0, z1, z2⟩
        · rw [z1, z2]; exact ⟨p, rfl, upd_same⟩
        · rw [z1, z2]; exact ⟨b, rfl, sp _ _ (D3.ls _ z0)⟩
      refine ⟨_, DGet.k (k := .inl y) (sp _ _ D3.dk), ?_⟩
      obtain ⟨q, eq, eQ⟩ := pv
      rw [eq]
      refine ⟨q, rfl, ⟨_, .of eQ⟩, fun N hN => ?_⟩
      have sN := Same.new (o := .lst []) hN
      have sps := sp.trans sN
      refine lc_it (walk_list (K := K) (a := q) (xs := (gr ks y).map V.int)) (fun j H4 => Same (upd H3 p (.lst [])) H4 ∧ H4 N = some (.lst ((((gr ks y).take j).filter fun i => decide (i ∉ fs ++ [y])).map V.int))) ⟨sN, by rw [upd_same]; rfl⟩ (fun j H4 _ z => .of (z.1 _ _ eQ)) ?_ ?_
      · rintro j x H4 H5 hj ⟨s4, eN⟩ ⟨rfl, hx⟩
        obtain ⟨z, hz, rfl⟩ := getI hx
        have lt := (List.getElem?_eq_some_iff.mp hz).1
        have etk : (gr ks y).take (j + 1) = (gr ks y).take j ++ [z] := by rw [List.take_succ_eq_append_getElem lt, (List.getElem?_eq_some_iff.mp hz).2]
        walk_at "st"
        refine ⟨rfl, ?_⟩
        walk_at "st"
        refine ⟨F, _, rfl, DGet.k (k := .inl z) (s4 _ _ (sp _ _ e2F)), _, rfl, ?_⟩
        rw [tr_val]
        refine rd_iteN (fun hz2 => ?_) (fun hz2 => ?_)
        · walk_at "st"
          refine ⟨_, eN, ?_, fun b o e => ?_, ?_⟩
          · rw [List.length_map, sizeLine_eq]
            have b1 := List.length_filter_le (fun i => decide (i ∉ fs ++ [y])) ((gr ks y).take j)
            have b2 := List.length_take_le j (gr ks y)
            have b3 : (gr ks y).length ≤ dlTot ks := by
              rcases dl_val ks y with ⟨_, z2, _⟩ | ⟨b, l, z0, _, z2⟩
              · rw [z2]; exact Nat.zero_le _
              · rw [z2]; exact dlTot_len z0
            omega
          · rw [upd_ne (ne_of_none e hN)]
            exact s4 _ _ e
          · rw [upd_same, etk, List.filter_append, List.map_append]
            have e1 : ([z].filter fun i => decide (i ∉ fs ++ [y])) = [z] := by simp only [List.filter_cons, List.filter_nil, decide_eq_true hz2, if_true]
            rw [e1]
            rfl
        · refine ⟨s4, ?_⟩
          have e1 : ([z].filter fun i => decide (i ∉ fs ++ [y])) = [] := by rw [List.filter_cons_of_neg (by rw [decide_eq_false (fun w : z ∉ fs ++ [y] => w hz2)]; exact Bool.false_ne_true)]; rfl
          rw [eN, etk, List.filter_append, e1, List.append_nil]
      · rintro H4 ⟨s4, eN⟩
        rw [List.length_map, List.take_length] at eN
        have s34 := sp.trans s4
        have pa := phi_add ks fs y hD.kd hy
        have fl := List.length_filter_le (fun i => decide (i ∉ fs ++ [y])) (gr ks y)
        have nL : ∀ b o, H b = some o → b ≠ L := fun b o e => ne_of_none e HL
        walk_at "st"
        refine ⟨L, N, _, _, rfl, rfl, s34 _ _ e2L, eN, by rw [List.length_map, List.length_map, sizeLine_eq]; omega, ?_⟩
        refine ⟨_, ?_, fs ++ [y], qs.dropLast ++ (gr ks y).filter (fun i => decide (i ∉ fs ++ [y])), _, _, rfl, rfl, fun b o e => ?_, ?_, ?_, ?_, ?_, ?_, fun i hi => ?_, fun i hi => ?_, fun i hi => ?_, fun i hi w hw => ?_⟩
        · rw [List.length_append]; omega
        · rw [upd_ne (nL b o e)]
          exact s34 _ _ (base2 b o e)
        · rw [upd_ne FL]
          exact s34 _ _ e2F
        · rw [upd_same, List.map_append]
        · refine List.nodup_append.mpr ⟨nd, by simp, fun u hu w hw e => ?_⟩
          rw [List.mem_singleton.mp hw] at e
          exact hy (e ▸ hu)
        · rw [List.length_append]; omega
        · simp only [List.length_append, List.length_singleton]; omega
        · rcases List.mem_append.mp hi with z | z
          · exact r1 i z
          · rw [List.mem_singleton.mp z]; exact r2 y ymem
        · rcases List.mem_append.mp hi with z | z
          · exact r2 i (dsub i z)
          · exact .e (r2 y ymem) (List.mem_filter.mp z).1
        · rcases c1 i hi with z | z
          · exact .inl (List.mem_append_left _ z)
          · rcases split i z with w | w
            · exact .inr (List.mem_append_left _ w)
            · exact .inl (by rw [w]; simp)
        · by_cases wf : w ∈ fs ++ [y]
          · exact .inl wf
          · rcases List.mem_append.mp hi with z | z
            · rcases c2 i z w hw with u | u
              · exact .inl (List.mem_append_left _ u)
              · rcases split w u with v | v
                · exact .inr (List.mem_append_left _ v)
                · exact absurd (by rw [v]; simp) wf
            · rw [List.mem_singleton.mp z] at hw
              exact .inr (List.mem_append_right _ (List.mem_filter.mpr ⟨hw, decide_eq_true wf⟩))
    · walk_at "st"
      refine ⟨_, ?_, fs, qs.dropLast, _, _, rfl, rfl, base, eF1, by rw [upd_same, mapd], nd, by omega, by omega, r1, fun i hi => r2 i (dsub i hi), fun i hi => ?_, fun i hi w hw => ?_⟩
      · omega
      · rcases c1 i hi with z | z
        · exact .inl z
        · rcases split i z with w | w
          · exact .inr w
          · exact .inl (by rw [w]; exact hy)
      · rcases c2 i hi w hw with z | z
        · exact .inl z
        · rcases split w z with u | u
          · exact .inr u
          · exact .inl (by rw [u]; exact hy)
/-! lots -/
abbrev Mv := Int × Str × Int
def tabK (tab : List Mv) : List (List Key × V) := tab.map fun m => ([.inl m.1, .inr m.2.1], .int m.2.2)
def mvKey (m : Mv) : Int × Str := (m.1, m.2.1)
/-- m at the end, unless its key is there -/
def insM (tab : List Mv) (m : Mv) : List Mv := if (∃ t ∈ tab, mvKey t = mvKey m) then tab else tab ++ [m]
def IsSg (z : Str) : Prop := ∃ c ∈ letters, z = tx [c]
structure MvOk (n : Int) (m : Mv) : Prop where
  a : 0 ≤ m.1 ∧ m.1 < n
  b : 0 ≤ m.2.2 ∧ m.2.2 < n
  s : IsSg m.2.1
/-- two moves with the same state and sign lead to the same state -/
def Det (ms : List Mv) : Prop := ∀ m ∈ ms, ∀ m' ∈ ms, mvKey m = mvKey m' → m.2.2 = m'.2.2
structure GoodLot (n : Int) (last : List Int) (ms : List Mv) : Prop where
  n1 : 1 ≤ n
  n2 : n ≤ 40
  la : ∀ s ∈ last, 0 ≤ s ∧ s < n
  mv : ∀ m ∈ ms, MvOk n m
  de : Det ms
/-- the table that comes of the moves -/
structure TabOf (ms tab : List Mv) : Prop where
  mem : ∀ m, m ∈ tab ↔ m ∈ ms
  nd : (tab.map mvKey).Nodup
theorem TabOf.nil : TabOf [] [] := ⟨fun _ => Iff.rfl, List.Pairwise.nil⟩
theorem tab_val : ∀ (tab : List Mv) (s : Int) (z : Str), (valV (tabK tab) [.inl s, .inr z] = none ∧ ∀ t ∈ tab, mvKey t ≠ (s, z)) ∨ ∃ g, (s, z, g) ∈ tab ∧ valV (tabK tab) [.inl s, .inr z] = some (.int g)
  | [], _, _ => .inl ⟨rfl, fun _ h => (nomatch h)⟩
  | t :: r, s, z => by
    by_cases h : mvKey t = (s, z)
    · obtain ⟨a, b, g⟩ := t
      cases h
      exact .inr ⟨g, List.mem_cons_self, valV_pos (p := (([.inl a, .inr b] : List Key), V.int g)) rfl⟩
    · have hv : valV (tabK (t :: r)) [.inl s, .inr z] = valV (tabK r) [.inl s, .inr z] := valV_neg (p := (([.inl t.1, .inr t.2.1] : List Key), V.int t.2.2)) (fun q => h (by
        injection q with q1 q2
        injection q2 with q2 _
        exact Prod.ext (Sum.inl.inj q1) (Sum.inr.inj q2)))
      rw [hv]
      rcases tab_val r s z with ⟨h1, h2⟩ | ⟨g, h1, h2⟩
      · refine .inl ⟨h1, fun x hx => ?_⟩
        rcases List.mem_cons.mp hx with q | q
        · rw [q]; exact h
        · exact h2 x q
      · exact .inr ⟨g, List.mem_cons_of_mem _ h1, h2⟩
theorem tab_same : ∀ {tab : List Mv} {s : Int} {z : Str} {g : Int}, (tab.map mvKey).Nodup → (s, z, g) ∈ tab → (tabK tab).map (fun kv => if kv.1 = ([.inl s, .inr z] : List Key) then (kv.1, V.int g) else kv) = tabK tab
  | [], _, _, _, _, h => by cases h
  | t :: r, s, z, g, nd, h => by
    obtain ⟨n1, n2⟩ := List.nodup_cons.mp nd
    have out : ∀ (q : List Mv), (∀ x ∈ q, mvKey x ≠ (s, z)) → (tabK q).map (fun kv => if kv.1 = ([.inl s, .inr z] : List Key) then (kv.1, V.int g) else kv) = tabK q := by
      intro q hq
      unfold tabK
      rw [List.map_map]
      apply List.map_congr_left
      intro x hx
      show (if ([.inl x.1, .inr x.2.1] : List Key) = [.inl s, .inr z] then _ else _) = _
      rw [if_neg]
      intro w
      injection w with w1 w2
      injection w2 with w2 _
      exact hq x hx (Prod.ext (Sum.inl.inj w1) (Sum.inr.inj w2))
    rcases List.mem_cons.mp h with q | q
    · subst q
      have o := out r fun x hx w => n1 (List.mem_map.mpr ⟨x, hx, w⟩)
      show (if ([.inl s, .inr z] : List Key) = [.inl s, .inr z] then _ else _) :: (tabK r).map _ = _
      rw [if_pos rfl, o]
      rfl
    · have hk : mvKey t ≠ (s, z) := fun w => n1 (List.mem_map.mpr ⟨(s, z, g), q, w.symm⟩)
      have ih := tab_same n2 q
      show (if ([.inl t.1, .inr t.2.1] : List Key) = [.inl s, .inr z] then _ else _) :: (tabK r).map _ = _
      rw [if_neg (fun w => hk (by
        injection w with w1 w2
        injection w2 with w2 _
        exact Prod.ext (Sum.inl.inj w1) (Sum.inr.inj w2))), ih]
      rfl
/-- the table behind a further move that fits -/
theorem tab_put {tab : List Mv} {m : Mv} (nd : (tab.map mvKey).Nodup) (hd : ∀ t ∈ tab, mvKey t = mvKey m → t.2.2 = m.2.2) : putK (tabK tab) [.inl m.1, .inr m.2.1] (.int m.2.2) = tabK (insM tab m) := by
  obtain ⟨s, z, g⟩ := m
  unfold insM
  rcases tab_val tab s z with ⟨h1, h2⟩ | ⟨g', h1, h2⟩
  · rw [if_neg (fun ⟨t, ht, e⟩ => h2 t ht e), putK_new _ h1]
    simp [tabK]
  · have eg : g' = g := hd _ h1 rfl
    subst eg
    rw [if_pos ⟨_, h1, rfl⟩]
    unfold putK
    rw [valV_any, h2]
    simp only [Option.isSome_some, if_true]
    exact tab_same nd h1
theorem TabOf.step {ms tab : List Mv} {m : Mv} (h : TabOf ms tab) (hd : ∀ t ∈ tab, mvKey t = mvKey m → t.2.2 = m.2.2) : TabOf (ms ++ [m]) (insM tab m) := by
  unfold insM
  split
  · rename_i c
    obtain ⟨t, ht, e⟩ := c
    have et : t = m := by
      have e2 := hd t ht e
      obtain ⟨a, b, c⟩ := t
      obtain ⟨a', b', c'⟩ := m
      cases e
      cases e2
      rfl
    refine ⟨fun x => ?_, h.nd⟩
    rw [List.mem_append, List.mem_singleton, h.mem x]
    exact ⟨.inl, fun z => z.elim id fun w => by rw [w, ← et]; exact (h.mem t).mp ht⟩
  · rename_i c
    refine ⟨fun x => ?_, ?_⟩
    · rw [List.mem_append, List.mem_append, h.mem x]
    · rw [List.map_append]
      refine List.nodup_append.mpr ⟨h.nd, by simp, fun a ha b hb e => ?_⟩
      obtain ⟨t, ht, rfl⟩ := List.mem_map.mp ha
      rw [List.map_cons, List.map_nil, List.mem_singleton] at hb
      exact c ⟨t, ht, e.trans hb⟩
structure LotAt (K : Frg) (H : Hp) (l T F : Addr) (n : Int) (tab : List Mv) (fin : List Int) : Prop where
  i : ∃ dx, H l = some (.ins (He.ga K "Lot") dx [("table", .ref T), ("many", .int n), ("finals", .ref F)])
  t : H T = some (.dT (tabK tab))
  f : H F = some (.lst (fin.map V.int))
theorem LotAt.same {H H' : Hp} {l T F : Addr} {n : Int} {tab : List Mv} {fin : List Int} (h : LotAt K H l T F n tab fin) (s : Same H H') : LotAt K H' l T F n tab fin :=
  ⟨let ⟨dx, e⟩ := h.i; ⟨dx, s _ _ e⟩, s _ _ h.t, s _ _ h.f⟩
theorem LotAt.keep {H H' : Hp} {d l T F : Addr} {n : Int} {tab : List Mv} {fin : List Int} (h : LotAt K H l T F n tab fin) (k : Keep d H H') (n1 : l ≠ d) (n2 : T ≠ d) (n3 : F ≠ d) : LotAt K H' l T F n tab fin :=
  ⟨let ⟨dx, e⟩ := h.i; ⟨dx, k _ _ n1 e⟩, k _ _ n2 h.t, k _ _ n3 h.f⟩
/-- the sorted list of ints, each once -/
def kInt : Key → Int
  | .inl i => i
  | .inr _ => 0
def finOf (L : List Key) : List Int := (L.mergeSort (PySem.W.dataLe false SetX.kD)).map kInt
theorem fin_ok {last : List Int} {L : List Key} (g : SetX.Got SetX.kD (last.map Sum.inl) L) : (L.mergeSort (PySem.W.dataLe false SetX.kD)).map kV = (finOf L).map V.int ∧ (∀ x, x ∈ finOf L ↔ x ∈ last) ∧ (finOf L).Pairwise (· < ·) := by
  have pm : (L.mergeSort (PySem.W.dataLe false SetX.kD)).Perm L := List.mergeSort_perm _ _
  have all : ∀ k ∈ L.mergeSort (PySem.W.dataLe false SetX.kD), ∃ i : Int, k = .inl i ∧ i ∈ last := fun k hk => by
    obtain ⟨i, hi, e⟩ := List.mem_map.mp (g.sub k (pm.mem_iff.mp hk))
    exact ⟨i, e.symm, hi⟩
  have e1 : (L.mergeSort (PySem.W.dataLe false SetX.kD)).map kV = (finOf L).map V.int := by
    unfold finOf
    rw [List.map_map]
    apply List.map_congr_left
    intro k hk
    obtain ⟨i, rfl, _⟩ := all k hk
    rfl
  refine ⟨e1, fun x => ⟨fun hx => ?_, fun hx => ?_⟩, ?_⟩
  · obtain ⟨k, hk, e⟩ := List.mem_map.mp hx
    obtain ⟨i, rfl, hi⟩ := all k hk
    rw [← e]; exact hi
  · obtain ⟨k, hk, e⟩ := g.all (.inl x) (List.mem_map.mpr ⟨x, hx, rfl⟩)
    have := SetX.kD_inj e
    subst this
    exact List.mem_map.mpr ⟨_, pm.mem_iff.mpr hk, rfl⟩
  · have tot : PySem.W.TotalLe (PySem.W.dataLe false SetX.kD) := PySem.W.sortLe_total _ _ _
    have pw := PySem.W.sort_pairwise tot L
    have ndk : (L.mergeSort (PySem.W.dataLe false SetX.kD)).Nodup := by
      refine pm.nodup_iff.mpr ?_
      have := g.nd
      exact List.Pairwise.of_map SetX.kD (fun a b hne e => hne (by rw [e])) this
    unfold finOf
    rw [List.pairwise_map]
    have both := List.pairwise_and_iff.mpr ⟨pw, ndk⟩
    refine List.Pairwise.imp_of_mem (fun {a b} ha hb q => ?_) both
    obtain ⟨i, rfl, _⟩ := all a ha
    obtain ⟨j, rfl, _⟩ := all b hb
    have q1 : PySem.W.dataLe false SetX.kD (.inl i) (.inl j) = true := q.1
    have q2 : (Sum.inl i : Key) ≠ .inl j := q.2
    have e2 : PySem.W.dataLe false SetX.kD (.inl i) (.inl j) = !PySem.W.dataLt (.int j) (.int i) := rfl
    rw [e2, PySem.W.dataLt_int, PySem.W.not_lt_int] at q1
    have := of_decide_eq_true q1
    show i < j
    have : i ≠ j := fun z => q2 (by rw [z])
    omega
/-! Lot.__init__ over what makes a lot -/
theorem is_sign_ok {c : Nat} {H : Hp} {Q : VK} {E : XK} (hc : c ∈ letters) (h : Q (.bl true) H) : sp_is_sign K [.str (tx [c])] H Q E := by
  refine ⟨rfl, ?_⟩
  unfold t_is_sign
  walk_at "go"
  refine lenA_str (by rw [tx_len]; exact small2 (by simp)) ?_
  rw [tx_len]
  walk_at "all"
  refine inA_sign ?_
  rw [decide_eq_true (show c ∈ (Str.ofString "abcdefghijklmnopqrstuvwxyz").cps.toList from hc)]
  exact h
/-- tuples that say moves -/
structure MvsAt (H : Hp) (us : List Addr) (ms : List Mv) : Prop where
  l : us.length = ms.length
  g : ∀ (i : Nat) (u : Addr) (m : Mv), us[i]? = some u → ms[i]? = some m → H u = some (.tup [.int m.1, .str m.2.1, .int m.2.2])
theorem MvsAt.keep {H H' : Hp} {us : List Addr} {ms : List Mv} (h : MvsAt H us ms) (k : ∀ u xs, H u = some (.tup xs) → H' u = some (.tup xs)) : MvsAt H' us ms := ⟨h.l, fun i u m a b => k _ _ (h.g i u m a b)⟩
def fwE (ms : List Mv) (x : Int) : List Int := (ms.filter fun m => decide (m.1 = x)).map fun m => m.2.2
def bwE (ms : List Mv) (x : Int) : List Int := (ms.filter fun m => decide (m.2.2 = x)).map fun m => m.1
theorem mem_fwE {ms : List Mv} {x y : Int} : y ∈ fwE ms x ↔ ∃ m ∈ ms, m.1 = x ∧ m.2.2 = y := by
  unfold fwE
  rw [List.mem_map]
  exact ⟨fun ⟨m, hm, e⟩ => ⟨m, (List.mem_filter.mp hm).1, of_decide_eq_true (List.mem_filter.mp hm).2, e⟩, fun ⟨m, hm, e1, e2⟩ => ⟨m, List.mem_filter.mpr ⟨hm, decide_eq_true e1⟩, e2⟩⟩
theorem mem_bwE {ms : List Mv} {x y : Int} : y ∈ bwE ms x ↔ ∃ m ∈ ms, m.2.2 = x ∧ m.1 = y := by
  unfold bwE
  rw [List.mem_map]
  exact ⟨fun ⟨m, hm, e⟩ => ⟨m, (List.mem_filter.mp hm).1, of_decide_eq_true (List.mem_filter.mp hm).2, e⟩, fun ⟨m, hm, e1, e2⟩ => ⟨m, List.mem_filter.mpr ⟨hm, decide_eq_true e1⟩, e2⟩⟩
theorem Rch.mono {f f' : Int → List Int} {S S' : List Int} {i : Int} (h : Rch f S i) (hf : ∀ x y, y ∈ f x → y ∈ f' x) (hs : ∀ x ∈ S, x ∈ S') : Rch f' S' i := by
  induction h with
  | s hx => exact .s (hs _ hx)
  | e hx hy ih => exact .e ih (hf _ _ hy)
theorem getM {us : List Addr} {ms : List Mv} {H : Hp} {i : Nat} {x : V} (h : MvsAt H us ms) (hx : (us.map V.ref)[i]? = some x) : ∃ u m, x = .ref u ∧ ms[i]? = some m ∧ us[i]? = some u ∧ H u = some (.tup [.int m.1, .str m.2.1, .int m.2.2]) := by
  rw [List.getElem?_map] at hx
  cases e : us[i]? with
  | none => rw [e] at hx; cases hx
  | some u =>
    rw [e] at hx
    have lt : i < ms.length := by rw [← h.l]; exact (List.getElem?_eq_some_iff.mp e).1
    exact ⟨u, ms[i], (Option.some.inj hx).symm, List.getElem?_eq_getElem lt, rfl, h.g i u _ e (List.getElem?_eq_getElem lt)⟩
theorem DL.out {H : Hp} {d b : Addr} {ks : List DLE} {o : HO} (h : DL H d ks) (e : H b = some o) (n1 : ∀ xs, o ≠ .lst xs) (n2 : ∀ kv, o ≠ .dK kv) : b ∉ d :: dlA ks := fun m => by
  rcases List.mem_cons.mp m with z | z
  · rw [z, h.dk] at e; exact n2 _ (Option.some.inj e).symm
  · obtain ⟨x, hx, w⟩ := List.mem_map.mp z
    have q := h.ls x hx
    rw [show x.2.1 = b from w, e] at q
    exact n1 _ (Option.some.inj q)
theorem look_table (v : V) : List.lookup ("table" : Str) [(("table" : Str), v)] = some v := by simp [List.lookup]
theorem putTable (v : V) : putF "table" v [] = [(("table" : Str), v)] := rfl
theorem putMany (v u : V) : putF "many" u [(("table" : Str), v)] = [(("table" : Str), v), (("many" : Str), u)] := by
  have e : (("table" : Str) = "many") = False := by simp; decide +kernel
  simp [putF, e]
theorem putFinals (v u t : V) : putF "finals" t [(("table" : Str), v), (("many" : Str), u)] = [(("table" : Str), v), (("many" : Str), u), (("finals" : Str), t)] := by
  have e1 : (("table" : Str) = "finals") = False := by simp; decide +kernel
  have e2 : (("many" : Str) = "finals") = False := by simp; decide +kernel
  simp [putF, e1, e2]
theorem look_finals (v u t : V) : List.lookup ("finals" : Str) [(("table" : Str), v), (("many" : Str), u), (("finals" : Str), t)] = some t := by
  have e1 : (("finals" : Str) == "table") = false := by decide +kernel
  have e2 : (("finals" : Str) == "many") = false := by decide +kernel
  simp [List.lookup, e1, e2]
theorem look_many (v u t : V) : List.lookup ("many" : Str) [(("table" : Str), v), (("many" : Str), u), (("finals" : Str), t)] = some u := by
  have e1 : (("many" : Str) == "table") = false := by decide +kernel
  simp [List.lookup, e1]
theorem rd_sortSetB {B : SetX.Mem} {te : TE} {σ : L2.St} {H : Hp} {Q : VK} (h : te σ H fun v H1 => ∃ (l : Addr) (zs : List B.M), v = V.ref l ∧ SqL K H1 l (zs.map B.val) ∧ (∀ z ∈ zs, B.IsH K H1 z) ∧ zs.length + 1 < B.lim ∧ SetX.Cmpb B zs ∧
  ∀ (p q : Addr) (o : HO) (L : List B.M), H1 p = none → q ≠ p → H1 q = none → SetX.Got B.dat zs L → Q (.ref q) (upd (upd H1 p o) q (.lst ((SetX.srt B L).map B.val)))) : SetX.tSortSet B K te σ H Q := h
local macro_rules | `(tactic| walk_at "rd") => `(tactic| (with_reducible refine rd_sortSetB ?_))
theorem cmp_ints (last : List Int) : SetX.Cmpb SetX.memK (last.map Sum.inl) where
  al := fun d hd d' hd' => by
    obtain ⟨x, hx, rfl⟩ := List.mem_map.mp hd
    obtain ⟨y, hy, rfl⟩ := List.mem_map.mp hd'
    obtain ⟨i, _, rfl⟩ := List.mem_map.mp hx
    obtain ⟨j, _, rfl⟩ := List.mem_map.mp hy
    rfl
  so := .inr fun d hd => by
    obtain ⟨x, hx, rfl⟩ := List.mem_map.mp hd
    obtain ⟨i, _, rfl⟩ := List.mem_map.mp hx
    exact ⟨(fun z => nomatch z), fun _ z => nomatch z⟩
  dp := fun x hx => by
    obtain ⟨i, _, rfl⟩ := List.mem_map.mp hx
    exact Nat.zero_le _
theorem inl_vals (last : List Int) : (last.map (Sum.inl : Int → Key)).map kV = last.map V.int := by rw [List.map_map]; rfl
theorem fin_len {last : List Int} {L : List Key} (g : SetX.Got SetX.kD (last.map Sum.inl) L) : (finOf L).length ≤ last.length := by
  have e := (List.mergeSort_perm L (PySem.W.dataLe false SetX.kD)).length_eq
  have e3 := g.len
  rw [List.length_map] at e3
  unfold finOf
  rw [List.length_map, e]
  exact e3
/-! Lot.__init__ with all its outcomes -/
theorem is_sign_no {z : Str} {H : Hp} {Q : VK} {E : XK} (hz : z.cps.size ≤ 1000) (hs : ¬ IsSg z) (h : Q (.bl false) H) : sp_is_sign K [.str z] H Q E := by
  refine ⟨rfl, ?_⟩
  unfold t_is_sign
  walk_at "go"
  have hz' : z.length ≤ 1000 := hz
  refine lenA_str (small2 (by omega)) ?_
  walk_at "all"
  · rename_i e
    obtain ⟨c, hc⟩ : ∃ c, z = tx [c] := by
      rw [← tx_self z] at e ⊢
      rw [tx_len] at e
      generalize z.cps.toList = l at e
      match l, e with
      | [c], _ => exact ⟨c, rfl⟩
      | [], e => simp at e
      | _ :: _ :: _, e => simp at e; omega
    subst hc
    refine inA_sign ?_
    rw [decide_eq_false (show ¬ c ∈ (Str.ofString "abcdefghijklmnopqrstuvwxyz").cps.toList from fun w => hs ⟨c, w, rfl⟩)]
    exact h
  · exact h
theorem lot_init_out {P : Program} {mg : Str → Option Value} (T : Txt P K mg) {l dx la ma : Addr} {n : Int} {last : List Int} {ms : List Mv} {us : List Addr} {H : Hp} {Q : VK} {E : XK} (hl : H l = some (.ins (He.ga K "Lot") dx []))
    (hla : H la = some (.lst (last.map V.int))) (hma : H ma = some (.lst (us.map V.ref))) (hus : MvsAt H us ms) (hz : ∀ m ∈ ms, m.2.1.cps.size ≤ 1000) (z1 : last.length ≤ 1000) (z2 : ms.length ≤ 1000)
    (hB : ¬ GoodLot n last ms → ∀ H', Keep l H H' → E (.ref (He.ga K "BadLot")) none H')
    (hU : GoodLot n last ms → ∀ i, 0 ≤ i → i < n → (∀ j, 0 ≤ j → j < i → Rch (fwE ms) [0] j ∧ Rch (bwE ms) last j) → ¬ (Rch (fwE ms) [0] i ∧ Rch (bwE ms) last i) → ∀ H' d, Keep l H H' → H' d = none → E (.ref (He.ga K "Useless")) (some d) (upd H' d (.xd [("state", .int i)])))
    (h : GoodLot n last ms → (∀ i, 0 ≤ i → i < n → Rch (fwE ms) [0] i ∧ Rch (bwE ms) last i) → ∀ T F tab fin H', Keep l H H' → H T = none → H F = none → LotAt K H' l T F n tab fin → TabOf ms tab → (∀ x, x ∈ fin ↔ x ∈ last) → fin.Pairwise (· < ·) → Q .non H') : sp_Lot_init K [.ref l, .int n, .ref la, .ref ma] H Q E := by
  refine ⟨rfl, ?_⟩
  unfold t_Lot_init
  have nla : la ≠ l := fun e => by rw [e, hl] at hla; cases hla
  have nma : ma ≠ l := fun e => by rw [e, hl] at hma; cases hma
  walk_at "sq"
  by_cases g1 : 1 ≤ n
  rotate_left
  · walk_at "st"
    exact hB (fun g => g1 g.n1) H Keep.refl
  by_cases g2 : n ≤ 40
  rotate_left
  · walk_at "st"
    exact hB (fun g => g2 g.n2) H Keep.refl
  walk_at "st"
  walk_at "sq"
  walk_at "st"
  refine ⟨la, rfl, ⟨_, .of hla⟩, ?_⟩
  refine for_list (K := K) (a := la) (xs := last.map V.int) (fun i σ H2 => H2 = H ∧ (∀ s ∈ last.take i, 0 ≤ s ∧ s < n) ∧ ∃ v4, σ = [some (.ref l), some (.int n), some (.ref la), some (.ref ma), v4, none, none, none, none, none, none]) ⟨rfl, fun s hs => (by rw [List.take_zero] at hs; cases hs), none, rfl⟩ (fun i σ H2 _ q => .of (by rw [q.1]; exact hla)) ?_ ?_
  · rintro i x σ H2 hi ⟨rfl, pl, v4, rfl⟩
    obtain ⟨z, hz1, rfl⟩ := getI hi
    by_cases b1 : 0 ≤ z
    rotate_left
    · walk_at "st"
      exact hB (fun g => b1 (g.la z (List.mem_of_getElem? hz1)).1) _ Keep.refl
    by_cases b2 : z < n
    rotate_left
    · walk_at "st"
      exact hB (fun g => b2 (g.la z (List.mem_of_getElem? hz1)).2) _ Keep.refl
    walk_at "st"
    refine ⟨rfl, fun s hs => ?_, _, rfl⟩
    obtain ⟨lt, em⟩ := List.getElem?_eq_some_iff.mp hz1
    rw [List.take_succ_eq_append_getElem lt, em, List.mem_append, List.mem_singleton] at hs
    exact hs.elim (pl s) fun e => e ▸ ⟨b1, b2⟩
  rintro σ H2 ⟨rfl, pl, v4, rfl⟩
  rw [List.length_map, List.take_length] at pl
  walk_at "sq"
  walk_at "st"
  intro tT hT
  have sT := Same.new (o := .dT []) hT
  have lT : l ≠ tT := ne_of_none hl hT
  walk_at "st"
  refine ⟨l, _, dx, [], rfl, sT _ _ hl, T.c_Lot, T.n_Lot_table, by show 0 < 1000; decide, ?_⟩
  rw [putTable]
  walk_at "st"
  walk_at "sq"
  walk_at "st"
  intro d1 hd1
  walk_at "st"
  walk_at "sq"
  walk_at "st"
  intro d2 hd2
  have hd1' : upd H2 tT (.dT []) d1 = none := by
    cases e : upd H2 tT (.dT []) d1 with
    | none => rfl
    | some o =>
      by_cases q : d1 = l
      · rw [q, upd_same] at hd1; cases hd1
      · rw [upd_ne q, e] at hd1; cases hd1
  have d1T : d1 ≠ tT := fun q => by rw [q, upd_same] at hd1'; cases hd1'
  have hd1H : H2 d1 = none := by rw [upd_ne d1T] at hd1'; exact hd1'
  have d1l : d1 ≠ l := fun q => by rw [q, hl] at hd1H; cases hd1H
  have d2d1 : d2 ≠ d1 := fun q => by rw [q, upd_same] at hd2; cases hd2
  have hd2a : upd (upd H2 tT (.dT [])) l (.ins (He.ga K "Lot") dx [(("table" : Str), .ref tT)]) d2 = none := by rw [upd_ne d2d1] at hd2; exact hd2
  have d2l : d2 ≠ l := fun q => by rw [q, upd_same] at hd2a; cases hd2a
  have hd2b : upd H2 tT (.dT []) d2 = none := by rw [upd_ne d2l] at hd2a; exact hd2a
  have d2T : d2 ≠ tT := fun q => by rw [q, upd_same] at hd2b; cases hd2b
  have hd2H : H2 d2 = none := by rw [upd_ne d2T] at hd2b; exact hd2b
  generalize hHs : upd (upd (upd (upd H2 tT (.dT [])) l (.ins (He.ga K "Lot") dx [(("table" : Str), .ref tT)])) d1 (.dK [])) d2 (.dK []) = Hs
  have sL : Hs l = some (.ins (He.ga K "Lot") dx [(("table" : Str), .ref tT)]) := by rw [← hHs, upd_ne (Ne.symm d2l), upd_ne (Ne.symm d1l), upd_same]
  have sTT : Hs tT = some (.dT (tabK [])) := by rw [← hHs, upd_ne (Ne.symm d2T), upd_ne (Ne.symm d1T), upd_ne (Ne.symm lT), upd_same]; rfl
  have D1 : DL Hs d1 [] := ⟨by rw [← hHs, upd_ne (Ne.symm d2d1), upd_same]; rfl, fun _ h => (nomatch h), List.Pairwise.nil, List.Pairwise.nil⟩
  have D2 : DL Hs d2 [] := ⟨by rw [← hHs, upd_same]; rfl, fun _ h => (nomatch h), List.Pairwise.nil, List.Pairwise.nil⟩
  have k0 : ∀ b o, b ≠ l → H2 b = some o → Hs b = some o := fun b o nb e => by
    rw [← hHs, upd_ne (ne_of_none e hd2H), upd_ne (ne_of_none e hd1H), upd_ne nb, upd_ne (ne_of_none e hT)]; exact e
  have fl : ∀ b, Hs b = none → H2 b = none := fun b e => by
    cases q : H2 b with
    | none => rfl
    | some o =>
      by_cases w : b = l
      · rw [w, sL] at e; cases e
      · rw [k0 b o w q] at e; cases e
  clear hHs hd1 hd2 hd1' hd2a hd2b
  walk_at "st"
  walk_at "sq"
  walk_at "st"
  refine ⟨ma, rfl, ⟨_, .of (k0 _ _ nma hma)⟩, ?_⟩
  have ml := hus.l
  refine for_list (K := K) (a := ma) (xs := us.map V.ref) (fun i σ H3 => (∀ m ∈ ms.take i, MvOk n m) ∧ Det (ms.take i) ∧ ∃ (ks1 ks2 : List DLE) (tab : List Mv) (v4 v9 v10 : Option V), σ = [some (.ref l), some (.int n), some (.ref la), some (.ref ma), v4, some (.ref d1), some (.ref d2), none, none, v9, v10] ∧
      DL H3 d1 ks1 ∧ DL H3 d2 ks2 ∧ H3 l = some (.ins (He.ga K "Lot") dx [(("table" : Str), .ref tT)]) ∧ H3 tT = some (.dT (tabK tab)) ∧ TabOf (ms.take i) tab ∧ (∀ b o, b ≠ l → H2 b = some o → H3 b = some o) ∧ (∀ b ∈ dlA ks1, H2 b = none) ∧ (∀ b ∈ dlA ks2, H2 b = none) ∧
      (∀ b ∈ d1 :: dlA ks1, b ∉ d2 :: dlA ks2) ∧ (∀ x y, y ∈ gr ks1 x ↔ ∃ m ∈ ms.take i, m.1 = x ∧ m.2.2 = y) ∧ (∀ x y, y ∈ gr ks2 x ↔ ∃ m ∈ ms.take i, m.2.2 = x ∧ m.1 = y) ∧ ks1.length ≤ i ∧ ks2.length ≤ i ∧ dlTot ks1 = i ∧ dlTot ks2 = i ∧ tab.length ≤ i)
    ⟨fun m hm => (by rw [List.take_zero] at hm; cases hm), fun m hm => (by rw [List.take_zero] at hm; cases hm), [], [], [], _, none, none, rfl, D1, D2, sL, sTT, by rw [List.take_zero]; exact TabOf.nil, k0, fun _ h => (nomatch h), fun _ h => (nomatch h), fun b hb hb2 => d2d1 (by rw [← List.mem_singleton.mp hb2, List.mem_singleton.mp hb]), fun x y => ⟨fun q => (nomatch q), fun ⟨m, hm, _⟩ => by rw [List.take_zero] at hm; cases hm⟩, fun x y => ⟨fun q => (nomatch q), fun ⟨m, hm, _⟩ => by rw [List.take_zero] at hm; cases hm⟩, Nat.le_refl _, Nat.le_refl _, rfl, rfl, Nat.le_refl _⟩
    (fun i σ H3 _ q => by obtain ⟨_, _, _, _, _, _, _, _, _, _, _, _, _, _, k3, _⟩ := q; exact .of (k3 _ _ nma hma)) ?_ ?_
  · rintro i x σ H3 hi ⟨pm, pd, ks1, ks2, tab, v4, v9, v10, rfl, E1, E2, eL, eT, tb, k3, w1, w2, dj, e1, e2, c1, c2, t1, t2, tl⟩
    obtain ⟨u, m, rfl, hm, hu2, eu⟩ := getM hus hi
    obtain ⟨lt, em⟩ := List.getElem?_eq_some_iff.mp hm
    have etk : ms.take (i + 1) = ms.take i ++ [m] := by rw [List.take_succ_eq_append_getElem lt, em]
    have hmm := List.mem_of_getElem? hm
    have hz' := hz m hmm
    have nu : u ≠ l := fun e => by rw [e, hl] at eu; cases eu
    have eu3 := k3 _ _ nu eu
    have kk3 : Keep l H2 H3 := k3
    obtain ⟨m1, z, m3⟩ := m
    dsimp only at eu3 hz'
    refine rd_gtup eu3 rfl ?_
    by_cases a1 : 0 ≤ m1
    rotate_left
    · walk_at "st"
      walk_at "sq"
      walk_at "st"
      exact hB (fun g => a1 (g.mv _ hmm).a.1) _ kk3
    by_cases a2 : m1 < n
    rotate_left
    · walk_at "st"
      walk_at "sq"
      walk_at "st"
      exact hB (fun g => a2 (g.mv _ hmm).a.2) _ kk3
    by_cases b1 : 0 ≤ m3
    rotate_left
    · walk_at "st"
      walk_at "sq"
      walk_at "st"
      exact hB (fun g => b1 (g.mv _ hmm).b.1) _ kk3
    by_cases b2 : m3 < n
    rotate_left
    · walk_at "st"
      walk_at "sq"
      walk_at "st"
      exact hB (fun g => b2 (g.mv _ hmm).b.2) _ kk3
    by_cases ss : IsSg z
    rotate_left
    · walk_at "st"
      walk_at "sq"
      walk_at "st"
      refine is_sign_no hz' ss ?_
      walk_at "st"
      exact hB (fun g => ss (g.mv _ hmm).s) _ kk3
    have mok : MvOk n (m1, z, m3) := ⟨⟨a1, a2⟩, ⟨b1, b2⟩, ss⟩
    obtain ⟨c, hc, es⟩ := ss
    subst es
    walk_at "st"
    walk_at "sq"
    walk_at "st"
    refine is_sign_ok hc ?_
    walk_at "st"
    walk_at "sq"
    walk_at "st"
    refine ⟨l, _, dx, _, _, rfl, eL, T.c_Lot, T.n_Lot_table, look_table _, ?_⟩
    refine ⟨tT, rfl, .inr ⟨_, .inl eT⟩, ?_⟩
    walk_at "st"
    intro p hp
    have sp := Same.new (o := .tup [.int m1, .str (tx [c])]) hp
    walk_at "st"
    refine ⟨_, DGet.t (k := [.inl m1, .inr (tx [c])]) (sp _ _ eT) upd_same, ?_⟩
    have sp3 : Keep l H2 (upd H3 p (.tup [.int m1, .str (tx [c])])) := fun b o nb e => sp _ _ (k3 _ _ nb e)
    have hval : (∃ g', (m1, tx [c], g') ∈ tab ∧ g' ≠ m3 ∧ (valV (tabK tab) [.inl m1, .inr (tx [c])]).getD (.int m3) = .int g') ∨ ((valV (tabK tab) [.inl m1, .inr (tx [c])]).getD (.int m3) = .int m3 ∧ ∀ t ∈ tab, mvKey t = mvKey (m1, tx [c], m3) → t.2.2 = m3) := by
      rcases tab_val tab m1 (tx [c]) with ⟨q, nk⟩ | ⟨g', hg', q⟩
      · exact .inr ⟨by rw [q]; rfl, fun t ht e => absurd e (nk t ht)⟩
      · by_cases eg : g' = m3
        · refine .inr ⟨by rw [q, eg]; rfl, fun t ht e => ?_⟩
          rw [← eg]
          exact pd t ((tb.mem t).mp ht) _ ((tb.mem _).mp hg') e
        · exact .inl ⟨g', hg', eg, by rw [q]; rfl⟩
    rcases hval with ⟨g', hg', eg, eV⟩ | ⟨eV, hdet⟩
    · rw [eV]
      walk_at "st"
      exact hB (fun g => eg (g.de _ (List.mem_of_mem_take ((tb.mem _).mp hg')) _ hmm rfl)) _ sp3
    rw [eV]
    walk_at "st"
    walk_at "sq"
    walk_at "st"
    refine ⟨l, _, dx, _, _, rfl, sp _ _ eL, T.c_Lot, T.n_Lot_table, look_table _, ?_⟩
    walk_at "st"
    intro q hq
    have sq := Same.new (o := .tup [.int m1, .str (tx [c])]) hq
    have ltz : i < 1000 := by omega
    refine ⟨tT, _, rfl, DPut.t (k := [.inl m1, .inr (tx [c])]) (sq _ _ (sp _ _ eT)) upd_same (by unfold tabK; rw [List.length_map, sizeLine_eq]; omega), ?_⟩
    rw [show putK (tabK tab) [.inl m1, .inr (tx [c])] (.int m3) = tabK (insM tab (m1, tx [c], m3)) from tab_put (m := (m1, tx [c], m3)) tb.nd hdet]
    generalize hH6 : upd (upd (upd H3 p (.tup [.int m1, .str (tx [c])])) q (.tup [.int m1, .str (tx [c])])) tT (.dT (tabK (insM tab (m1, tx [c], m3)))) = H6
    have st6 : ∀ b o, b ≠ tT → H3 b = some o → H6 b = some o := fun b o nb e => by rw [← hH6, upd_ne nb]; exact sq _ _ (sp _ _ e)
    have eT6 : H6 tT = some (.dT (tabK (insM tab (m1, tx [c], m3)))) := by rw [← hH6, upd_same]
    have eL6 := st6 _ _ lT eL
    have n1T : tT ∉ d1 :: dlA ks1 := E1.out eT (fun _ z => nomatch z) (fun _ z => nomatch z)
    have n2T : tT ∉ d2 :: dlA ks2 := E2.out eT (fun _ z => nomatch z) (fun _ z => nomatch z)
    have F1 : DL H6 d1 ks1 := E1.keep fun b o hb e => st6 b o (fun z => n1T (z ▸ hb)) e
    have F2 : DL H6 d2 ks2 := E2.keep fun b o hb e => st6 b o (fun z => n2T (z ▸ hb)) e
    have bk : ∀ b, H6 b = none → H2 b = none := fun b e => by
      cases w : H2 b with
      | none => rfl
      | some o =>
        by_cases z : b = l
        · rw [z, eL6] at e; cases e
        · rw [st6 b o (ne_of_none w hT) (k3 b o z w)] at e; cases e
    have a1 : ∀ b ∈ d1 :: dlA ks1, H2 b = none := fun b hb => (List.mem_cons.mp hb).elim (fun z => z ▸ hd1H) (w1 b)
    have a2 : ∀ b ∈ d2 :: dlA ks2, H2 b = none := fun b hb => (List.mem_cons.mp hb).elim (fun z => z ▸ hd2H) (w2 b)
    clear hH6 sq sp hp hq
    walk_at "st"
    walk_at "sq"
    refine dl_push (d := d1) (ks := ks1) (s := m1) (g := m3) (fun _ _ w => rd_var rfl w) (fun _ _ w => rd_var rfl w) (fun _ _ w => rd_var rfl w) F1 (by omega) fun H7 ks1' G1 r1 f1 l1 s1 => ?_
    have G2 : DL H7 d2 ks2 := F2.keep fun b o hb e => f1.keep b o (fun z => dj b z hb) e
    refine dl_push (d := d2) (ks := ks2) (s := m3) (g := m1) (fun _ _ w => rd_var rfl w) (fun _ _ w => rd_var rfl w) (fun _ _ w => rd_var rfl w) G2 (by omega) fun H8 ks2' J2 r2 f2 l2 s2 => ?_
    have dA : ∀ b ∈ d2 :: dlA ks2, b ∉ d1 :: dlA ks1' := f1.disj (fun b hb => F2.there b hb) fun b hb z => dj b z hb
    have dB : ∀ b ∈ d1 :: dlA ks1', b ∉ d2 :: dlA ks2' := f2.disj (fun b hb => G1.there b hb) fun b hb z => dA b z hb
    have J1 : DL H8 d1 ks1' := G1.keep fun b o hb e => f2.keep b o (fun z => dA b z hb) e
    have b1 : ∀ b ∈ d1 :: dlA ks1', H2 b = none := fun b hb => (f1.from_ b hb).elim (a1 b) (bk b)
    have b2 : ∀ b ∈ d2 :: dlA ks2', H2 b = none := fun b hb => (f2.from_ b hb).elim (a2 b) fun z => by
      cases w : H2 b with
      | none => rfl
      | some o =>
        exfalso
        by_cases y : b = l
        · have q := f1.keep l _ (fun u => by have := a1 l u; rw [hl] at this; cases this) eL6
          rw [y, q] at z; cases z
        · have q := f1.keep b o (fun u => by have := a1 b u; rw [w] at this; cases this) (st6 b o (ne_of_none w hT) (k3 b o y w))
          rw [q] at z; cases z
    have up : ∀ b o, b ∉ d1 :: dlA ks1 → b ∉ d2 :: dlA ks2 → H6 b = some o → H8 b = some o := fun b o u v e => f2.keep b o v (f1.keep b o u e)
    refine ⟨fun t ht => ?_, fun t ht t' ht' e => ?_, ks1', ks2', insM tab (m1, tx [c], m3), _, _, _, rfl, J1, J2, up _ _ (F1.out eL6 (fun _ z => nomatch z) (fun _ z => nomatch z)) (F2.out eL6 (fun _ z => nomatch z) (fun _ z => nomatch z)) eL6, up _ _ n1T n2T eT6, by rw [etk]; exact tb.step (m := (m1, tx [c], m3)) hdet, fun b o nb e => ?_, fun b hb => b1 b (List.mem_cons_of_mem _ hb), fun b hb => b2 b (List.mem_cons_of_mem _ hb), dB, fun x y => ?_, fun x y => ?_, by omega, by omega, by omega, by omega, ?_⟩
    · rw [etk, List.mem_append, List.mem_singleton] at ht
      exact ht.elim (pm t) fun e => e ▸ mok
    · rw [etk, List.mem_append, List.mem_singleton] at ht ht'
      rcases ht with ht | ht <;> rcases ht' with ht' | ht'
      · exact pd t ht t' ht' e
      · subst ht'
        exact hdet t ((tb.mem t).mpr ht) e
      · subst ht
        exact (hdet t' ((tb.mem t').mpr ht') e.symm).symm
      · rw [ht, ht']
    · exact up b o (fun u => by have := a1 b u; rw [e] at this; cases this) (fun u => by have := a2 b u; rw [e] at this; cases this) (st6 b o (ne_of_none e hT) (k3 b o nb e))
    · rw [r1, etk]
      by_cases w : x = m1
      · rw [if_pos w, List.mem_append, e1, List.mem_singleton]
        constructor
        · rintro (⟨m, hm, q⟩ | q)
          · exact ⟨m, List.mem_append_left _ hm, q⟩
          · exact ⟨_, List.mem_append_right _ List.mem_cons_self, w.symm, q.symm⟩
        · rintro ⟨m, hm, q1, q2⟩
          rcases List.mem_append.mp hm with z | z
          · exact .inl ⟨m, z, q1, q2⟩
          · rw [List.mem_singleton.mp z] at q2
            exact .inr q2.symm
      · rw [if_neg w, e1]
        constructor
        · rintro ⟨m, hm, q⟩
          exact ⟨m, List.mem_append_left _ hm, q⟩
        · rintro ⟨m, hm, q1, q2⟩
          rcases List.mem_append.mp hm with z | z
          · exact ⟨m, z, q1, q2⟩
          · rw [List.mem_singleton.mp z] at q1
            exact absurd q1.symm w
    · rw [r2, etk]
      by_cases w : x = m3
      · rw [if_pos w, List.mem_append, e2, List.mem_singleton]
        constructor
        · rintro (⟨m, hm, q⟩ | q)
          · exact ⟨m, List.mem_append_left _ hm, q⟩
          · exact ⟨_, List.mem_append_right _ List.mem_cons_self, w.symm, q.symm⟩
        · rintro ⟨m, hm, q1, q2⟩
          rcases List.mem_append.mp hm with z | z
          · exact .inl ⟨m, z, q1, q2⟩
          · rw [List.mem_singleton.mp z] at q2
            exact .inr q2.symm
      · rw [if_neg w, e2]
        constructor
        · rintro ⟨m, hm, q⟩
          exact ⟨m, List.mem_append_left _ hm, q⟩
        · rintro ⟨m, hm, q1, q2⟩
          rcases List.mem_append.mp hm with z | z
          · exact ⟨m, z, q1, q2⟩
          · rw [List.mem_singleton.mp z] at q1
            exact absurd q1.symm w
    · unfold insM
      split
      · omega
      · rw [List.length_append, List.length_singleton]; omega
  · rintro σ H3 ⟨pm, pd, ks1, ks2, tab, v4, v9, v10, rfl, E1, E2, eL, eT, tb, k3, w1, w2, dj, e1, e2, c1, c2, t1, t2, tl⟩
    rw [List.length_map, ml, List.take_length] at tb e1 e2 pm pd
    have g : GoodLot n last ms := ⟨g1, g2, pl, pm, pd⟩
    rw [List.length_map, ml] at c1 c2 t1 t2 tl
    have a1 : ∀ b ∈ d1 :: dlA ks1, H2 b = none := fun b hb => (List.mem_cons.mp hb).elim (fun z => z ▸ hd1H) (w1 b)
    have a2 : ∀ b ∈ d2 :: dlA ks2, H2 b = none := fun b hb => (List.mem_cons.mp hb).elim (fun z => z ▸ hd2H) (w2 b)
    have n1l : l ∉ d1 :: dlA ks1 := E1.out eL (fun _ z => nomatch z) (fun _ z => nomatch z)
    have n2l : l ∉ d2 :: dlA ks2 := E2.out eL (fun _ z => nomatch z) (fun _ z => nomatch z)
    walk_at "sq"
    walk_at "st"
    refine ⟨l, _, dx, _, rfl, eL, T.c_Lot, T.n_Lot_many, by simp, ?_⟩
    rw [putMany]
    walk_at "st"
    walk_at "sq"
    walk_at "st"
    have eL4 : upd H3 l (.ins (He.ga K "Lot") dx [(("table" : Str), .ref tT), (("many" : Str), .int n)]) l = some (.ins (He.ga K "Lot") dx [(("table" : Str), .ref tT), (("many" : Str), .int n)]) := upd_same
    have k4 : ∀ b o, b ≠ l → H3 b = some o → upd H3 l (.ins (He.ga K "Lot") dx [(("table" : Str), .ref tT), (("many" : Str), .int n)]) b = some o := fun b o nb e => by rw [upd_ne nb]; exact e
    have f4 : ∀ b, upd H3 l (.ins (He.ga K "Lot") dx [(("table" : Str), .ref tT), (("many" : Str), .int n)]) b = none → H3 b = none := fun b e => by
      by_cases z : b = l
      · rw [z, upd_same] at e; cases e
      · rw [upd_ne z] at e; exact e
    generalize upd H3 l (.ins (He.ga K "Lot") dx [(("table" : Str), .ref tT), (("many" : Str), .int n)]) = H4 at eL4 k4 f4 ⊢
    refine ⟨la, last.map Sum.inl, rfl, .of (show H4 la = some (.lst ((last.map (Sum.inl : Int → Key)).map kV)) by rw [inl_vals]; exact k4 _ _ nla (k3 _ _ nla hla)), fun _ _ => trivial, (show (last.map (Sum.inl : Int → Key)).length + 1 < 4096 by rw [List.length_map]; omega), cmp_ints last, fun pS qS oS L hpS nqS hqS got => ?_⟩
    obtain ⟨ef, fm, fw⟩ := fin_ok got
    have finlen := fin_len got
    rw [show (SetX.srt SetX.memK L).map SetX.memK.val = (finOf L).map V.int from ef]
    generalize finOf L = fin at ef fm fw finlen ⊢
    have s5 : ∀ b o, H4 b = some o → upd (upd H4 pS oS) qS (.lst (fin.map V.int)) b = some o := fun b o e => by rw [upd_ne (ne_of_none e hqS), upd_ne (ne_of_none e hpS)]; exact e
    walk_at "st"
    refine ⟨l, _, dx, _, rfl, s5 _ _ eL4, T.c_Lot, T.n_Lot_finals, by simp, ?_⟩
    rw [putFinals]
    have ql : qS ≠ l := fun z => by rw [z, eL4] at hqS; cases hqS
    generalize hH5 : upd (upd (upd H4 pS oS) qS (.lst (fin.map V.int))) l (.ins (He.ga K "Lot") dx [(("table" : Str), .ref tT), (("many" : Str), .int n), (("finals" : Str), .ref qS)]) = H5
    have eL5 : H5 l = some (.ins (He.ga K "Lot") dx [(("table" : Str), .ref tT), (("many" : Str), .int n), (("finals" : Str), .ref qS)]) := by rw [← hH5, upd_same]
    have eQ5 : H5 qS = some (.lst (fin.map V.int)) := by rw [← hH5, upd_ne ql, upd_same]
    have k5 : ∀ b o, b ≠ l → H3 b = some o → H5 b = some o := fun b o nb e => by rw [← hH5, upd_ne nb]; exact s5 _ _ (k4 b o nb e)
    have hq2 : H2 qS = none := by
      cases w : H2 qS with
      | none => rfl
      | some o =>
        by_cases z : qS = l
        · exact absurd z ql
        · have := k3 _ _ z w
          rw [f4 _ hqS] at this; cases this
    have M1 : DL H5 d1 ks1 := E1.keep fun b o hb e => k5 b o (fun z => n1l (z ▸ hb)) e
    have M2 : DL H5 d2 ks2 := E2.keep fun b o hb e => k5 b o (fun z => n2l (z ▸ hb)) e
    have eT5 := k5 _ _ (Ne.symm lT) eT
    clear hH5 s5 hqS hpS nqS
    walk_at "st"
    walk_at "sq"
    walk_at "st"
    intro r hr
    have sr := Same.new (o := .lst [V.int 0]) hr
    walk_at "st"
    refine reached_ok (ss := [0]) (ks := ks1) (.of upd_same) (M1.same sr) (by rw [t1]; show 1 + ms.length ≤ 1000000; omega) fun p1 H6 fs1 s6 hp1 ep1 nd1 m1 => ?_
    have s56 := sr.trans s6
    walk_at "st"
    walk_at "sq"
    walk_at "st"
    refine ⟨l, _, dx, _, _, rfl, s56 _ _ eL5, T.c_Lot, T.n_Lot_finals, look_finals _ _ _, ?_⟩
    walk_at "st"
    refine reached_ok (ss := fin) (ks := ks2) (.of (s56 _ _ eQ5)) (M2.same s56) (by rw [t2]; omega) fun p2 H7 fs2 s7 hp2 ep2 nd2 m2 => ?_
    have s57 := s56.trans s7
    walk_at "st"
    refine ⟨n, rfl, by omega, by omega, ?_⟩
    refine forR (n := n) (fun i σ H8 => H8 = H7 ∧ (∀ j : Int, 0 ≤ j → j < i → Rch (fwE ms) [0] j ∧ Rch (bwE ms) last j) ∧ ∃ v4 v9 v10, σ = [some (.ref l), some (.int n), some (.ref la), some (.ref ma), v4, some (.ref d1), some (.ref d2), some (.ref p1), some (.ref p2), v9, v10]) ⟨rfl, fun j j0 j1 => by omega, _, _, _, rfl⟩ ?_ ?_
    · rintro i σ H8 hi ⟨rfl, hp, v4', v9', v10', rfl⟩
      have q1 : ((i : Int) ∈ fs1) ↔ Rch (fwE ms) [0] i := (m1 _).trans ⟨fun u => u.mono (fun x y hy => mem_fwE.mpr ((e1 x y).mp hy)) fun _ h => h, fun u => u.mono (fun x y hy => (e1 x y).mpr (mem_fwE.mp hy)) fun _ h => h⟩
      have q2 : ((i : Int) ∈ fs2) ↔ Rch (bwE ms) last i := (m2 _).trans ⟨fun u => u.mono (fun x y hy => mem_bwE.mpr ((e2 x y).mp hy)) fun x hx => (fm x).mp hx, fun u => u.mono (fun x y hy => (e2 x y).mpr (mem_bwE.mp hy)) fun x hx => (fm x).mpr hx⟩
      have kU : Keep l H2 H8 := fun b o nb e => s57 _ _ (k5 b o nb (k3 b o nb e))
      walk_at "st"
      refine ⟨p1, _, rfl, DGet.k (k := .inl (i : Int)) (s7 _ _ ep1), ?_⟩
      refine ⟨_, rfl, ?_⟩
      rw [tr_val]
      by_cases i1 : (i : Int) ∈ fs1
      rotate_left
      · rw [decide_eq_false i1]
        walk_at "st"
        exact ⟨_, rfl, fun d hd => hU g i (by omega) hi hp (fun z => i1 (q1.mpr z.1)) _ d kU hd⟩
      rw [decide_eq_true i1]
      walk_at "st"
      refine ⟨p2, _, rfl, DGet.k (k := .inl (i : Int)) ep2, ?_⟩
      refine ⟨_, rfl, ?_⟩
      rw [tr_val]
      by_cases i2 : (i : Int) ∈ fs2
      rotate_left
      · rw [decide_eq_false i2]
        walk_at "st"
        exact ⟨_, rfl, fun d hd => hU g i (by omega) hi hp (fun z => i2 (q2.mpr z.2)) _ d kU hd⟩
      rw [decide_eq_true i2]
      walk_at "st"
      refine ⟨rfl, fun j j0 j1 => ?_, _, _, _, rfl⟩
      by_cases ej : j = (i : Int)
      · rw [ej]; exact ⟨q1.mp i1, q2.mp i2⟩
      · exact hp j j0 (by omega)
    · rintro σ H8 ⟨rfl, hp, v4', v9', v10', rfl⟩
      refine h g (fun i a b => hp i a (by omega)) tT qS tab fin H8 (fun b o nb e => s57 _ _ (k5 b o nb (k3 b o nb e))) hT hq2 ⟨⟨dx, s57 _ _ eL5⟩, s57 _ _ eT5, s57 _ _ eQ5⟩ tb fm fw
theorem lot_init_ok {P : Program} {mg : Str → Option Value} (T : Txt P K mg) {l dx la ma : Addr} {n : Int} {last : List Int} {ms : List Mv} {us : List Addr} {H : Hp} {Q : VK} {E : XK} (hl : H l = some (.ins (He.ga K "Lot") dx []))
    (hla : H la = some (.lst (last.map V.int))) (hma : H ma = some (.lst (us.map V.ref))) (hus : MvsAt H us ms) (g : GoodLot n last ms) (z1 : last.length ≤ 1000) (z2 : ms.length ≤ 1000)
    (hu : ∀ i, 0 ≤ i → i < n → Rch (fwE ms) [0] i ∧ Rch (bwE ms) last i)
    (h : ∀ T F tab fin H', Keep l H H' → H T = none → H F = none → LotAt K H' l T F n tab fin → TabOf ms tab → (∀ x, x ∈ fin ↔ x ∈ last) → fin.Pairwise (· < ·) → Q .non H') : sp_Lot_init K [.ref l, .int n, .ref la, .ref ma] H Q E :=
  lot_init_out T hl hla hma hus (fun m hm => by obtain ⟨c, _, e⟩ := (g.mv m hm).s; rw [e]; exact Nat.le_trans (Nat.le_of_eq (tx_len [c])) (by simp)) z1 z2 (fun ng => absurd g ng) (fun _ i i0 i1 _ nr => absurd (hu i i0 i1) nr) fun _ _ => h
theorem rd_itT {td : TE} {σ : L2.St} {H : Hp} {R : It → Hp → Prop} (h : td σ H fun x H1 => ∃ d o kvs, x = .ref d ∧ H1 d = some (.frz o (.dT kvs)) ∧ R (ItiT d o kvs) H1) : iItemsT td σ H R := h
local macro_rules | `(tactic| walk_at "rd") => `(tactic| first | (with_reducible refine rd_itT ?_))
theorem lot_states_ok {P : Program} {mg : Str → Option Value} (T : Txt P K mg) {l tT F : Addr} {n : Int} {tab : List Mv} {fin : List Int} {H : Hp} {Q : VK} {E : XK} (hl : LotAt K H l tT F n tab fin) (h : Q (.int n) H) : sp_Lot_states K [.ref l] H Q E := by
  obtain ⟨dx, el⟩ := hl.i
  refine ⟨rfl, ?_⟩
  unfold t_Lot_states
  walk_at "st"
  exact ⟨l, _, dx, _, _, rfl, el, T.c_Lot, T.n_Lot_many, look_many _ _ _, h⟩
def mvD (m : Mv) : PyData := .tuple [.int m.1, .str m.2.1, .int m.2.2]
theorem mv_dp {H : Hp} {u : Addr} {m : Mv} (h : H u = some (.tup [.int m.1, .str m.2.1, .int m.2.2])) : Dp K H (.ref u) (mvD m) := .tup (SqT.of h) (.cons (.int _) (.cons (.str _) (.cons (.int _) .nil)))
/-! comprehensions over a list, with a test; a lot as a law says it -/
/-- a comprehension over the list x, with a test -/
def LcP (K : Frg) (x : V) (g : TG) (tt : TT) (te : TE) (vs : List Nat) (σ : L2.St) (H1 : Hp) (Q : VK) : Prop := ∃ a, x = .ref a ∧ (∃ xs, SqL K H1 a xs) ∧
    ∀ D, H1 D = none → ∃ W : Nat → Nat → Hp → Prop, (∃ m, W 0 m (upd H1 D (.lst []))) ∧ ∀ i m H, W i m H →
      ((Itl K a).stop i H ∧ Q (.ref D) H) ∨ ((Itl K a).go i H ∧ ∃ Nx : Hp → Prop, (∀ H', Nx H' → ∃ m', m' < m ∧ W (i + 1) m' H') ∧ ∀ x H', (Itl K a).yld i H x H' → g x (wipe σ vs) H' fun σ2 H2 => wipe σ2 vs = wipe σ vs ∧ tt σ2 H2 fun b H3 =>
        if b = true then te σ2 H3 fun y H4 => ∃ acc, H4 D = some (.lst acc) ∧ acc.length < sizeLine ∧ Nx (upd H4 D (.lst (acc ++ [y]))) else Nx H3)
theorem rd_lcP {tl : TE} {g : TG} {tt : TT} {te : TE} {vs : List Nat} {σ : L2.St} {H : Hp} {Q : VK} (h : tl σ H fun x H1 => LcP K x g tt te vs σ H1 Q) : tLc (iList K tl) g tt te vs σ H Q := h
local macro_rules | `(tactic| walk_at "rd") => `(tactic| (with_reducible refine rd_lcP ?_))
structure PartsAt (H : Hp) (pa La Ma : Addr) (us : List Addr) (n : Int) (last : List Int) (ms : List Mv) : Prop where
  p : H pa = some (.tup [.int n, .ref La, .ref Ma])
  la : H La = some (.lst (last.map V.int))
  ma : H Ma = some (.lst (us.map V.ref))
  mv : MvsAt H us ms
theorem PartsAt.same {H H' : Hp} {pa La Ma : Addr} {us : List Addr} {n : Int} {last : List Int} {ms : List Mv} (h : PartsAt H pa La Ma us n last ms) (s : Same H H') : PartsAt H' pa La Ma us n last ms :=
  ⟨s _ _ h.p, s _ _ h.la, s _ _ h.ma, h.mv.keep fun u xs e => s _ _ e⟩
theorem PartsAt.keep {H H' : Hp} {d pa La Ma : Addr} {us : List Addr} {n : Int} {last : List Int} {ms : List Mv} (h : PartsAt H pa La Ma us n last ms) (k : Keep d H H') (d1 : ∃ xs, H d = some (.lst xs)) (n1 : La ≠ d) (n2 : Ma ≠ d) : PartsAt H' pa La Ma us n last ms := by
  obtain ⟨xs, e⟩ := d1
  have nt : ∀ u ys, H u = some (.tup ys) → u ≠ d := fun u ys q z => by rw [z, e] at q; cases q
  exact ⟨k _ _ (nt _ _ h.p) h.p, k _ _ n1 h.la, k _ _ n2 h.ma, h.mv.keep fun u xs q => k _ _ (nt _ _ q) q⟩
theorem eqA_intsNil {K : Frg} {a p : Addr} {ds : List Int} {H : Hp} {Q : VK} (ha : H a = some (.lst (ds.map V.int))) (hp : H p = some (.lst [])) (h : Q (.bl ds.isEmpty) H) : rEqA K (.ref a) (.ref p) H Q :=
  eqA_data (.lst (SqL.of ha) (intsData ds)) (nilData hp) (shaped_ints ds) (shaped_ints []) (eqv_nil ds) h
theorem ix0 {v : V} {xs : List V} : atI (v :: xs) 0 = some v := atI_nat (j := 0) rfl
theorem ix1 {u v : V} {xs : List V} : atI (u :: v :: xs) 1 = some v := atI_nat (j := 1) rfl
theorem ix2 {t u v : V} {xs : List V} : atI (t :: u :: v :: xs) 2 = some v := atI_nat (j := 2) rfl
/-! the order of moves -/
def ltMv (m m' : Mv) : Bool := decide (m.1 < m'.1) || (decide (m.1 = m'.1) && (decide (m.2.1.cps.toList < m'.2.1.cps.toList) || (decide (m.2.1 = m'.2.1) && decide (m.2.2 < m'.2.2))))
/-- two lists that rise strictly and have the same members are one -/
theorem rise_ext {α : Type} {lt : α → α → Prop} (asym : ∀ a b, lt a b → lt b a → False) : ∀ {l m : List α}, l.Pairwise lt → m.Pairwise lt → (∀ x, x ∈ l ↔ x ∈ m) → l = m
  | [], [], _, _, _ => rfl
  | [], y :: _, _, _, h => absurd ((h y).mpr List.mem_cons_self) (by simp)
  | x :: _, [], _, _, h => absurd ((h x).mp List.mem_cons_self) (by simp)
  | x :: l, y :: m, hl, hm, h => by
    obtain ⟨l1, l2⟩ := List.pairwise_cons.mp hl
    obtain ⟨m1, m2⟩ := List.pairwise_cons.mp hm
    have e : x = y := by
      rcases List.mem_cons.mp ((h x).mp List.mem_cons_self) with q | q
      · exact q
      · rcases List.mem_cons.mp ((h y).mpr List.mem_cons_self) with w | w
        · exact w.symm
        · exact (asym x y (l1 y w) (m1 x q)).elim
    subst e
    have irr : ∀ z, ¬ lt z z := fun z w => asym z z w w
    congr 1
    refine rise_ext asym l2 m2 fun z => ⟨fun q => ?_, fun q => ?_⟩
    · rcases List.mem_cons.mp ((h z).mp (List.mem_cons_of_mem _ q)) with w | w
      · rw [w] at q; exact (irr x (l1 x q)).elim
      · exact w
    · rcases List.mem_cons.mp ((h z).mpr (List.mem_cons_of_mem _ q)) with w | w
      · rw [w] at q; exact (irr x (m1 x q)).elim
      · exact w
/-! the data of lists -/
theorem eqvAll_refl : ∀ (ds : List PyData), (∀ d ∈ ds, PyData.eqv d d = true) → PyData.eqvAll ds ds = true
  | [], _ => by simp [PyData.eqvAll]
  | d :: r, h => by
    rw [PyData.eqvAll, h d List.mem_cons_self, eqvAll_refl r fun x hx => h x (List.mem_cons_of_mem _ hx)]
    rfl
theorem eqv_ints (l : List Int) : PyData.eqv (.list (l.map PyData.int)) (.list (l.map PyData.int)) = true := by
  rw [PyData.eqv]
  refine eqvAll_refl _ fun d hd => ?_
  obtain ⟨i, _, rfl⟩ := List.mem_map.mp hd
  simp [PyData.eqv]
theorem eqv_mvs (ms : List Mv) : PyData.eqv (.list (ms.map mvD)) (.list (ms.map mvD)) = true := by
  rw [PyData.eqv]
  refine eqvAll_refl _ fun d hd => ?_
  obtain ⟨i, _, rfl⟩ := List.mem_map.mp hd
  simp [mvD, PyData.eqv, PyData.eqvAll]
theorem mvs_dp {H : Hp} : ∀ {us : List Addr} {ms : List Mv}, MvsAt H us ms → DpAll K H (us.map V.ref) (ms.map mvD)
  | [], [], _ => .nil
  | [], _ :: _, h => absurd h.l (by simp)
  | _ :: _, [], h => absurd h.l (by simp)
  | u :: us, m :: ms, h => .cons (mv_dp (h.g 0 u m rfl rfl)) (mvs_dp ⟨by have := h.l; simp at this; exact this, fun i a b e1 e2 => h.g (i + 1) a b e1 e2⟩)
theorem letters_small : ∀ c ∈ letters, c < 0x110000 := by decide +kernel
theorem mvs_depth : ∀ (ms : List Mv), PyData.depthAll (ms.map mvD) ≤ 1
  | [] => by simp [PyData.depthAll]
  | m :: r => by
    have := mvs_depth r
    simp [PyData.depthAll, mvD, PyData.depth]
    omega
/-! comprehensions of any items -/
/-- an item: a plain value, or a new tuple -/
def ItemAt (H : Hp) (y : V) : V ⊕ List V → Prop
  | .inl v => y = v
  | .inr z => ∃ b, y = .ref b ∧ H b = some (.tup z)
theorem ItemAt.keep {H H' : Hp} {y : V} {z : V ⊕ List V} (h : ItemAt H y z) (k : ∀ b xs, H b = some (.tup xs) → H' b = some (.tup xs)) : ItemAt H' y z := by
  cases z with
  | inl v => exact h
  | inr z => obtain ⟨b, e, q⟩ := h; exact ⟨b, e, k _ _ q⟩
structure ItemsAt (H : Hp) (ys : List V) (zs : List (V ⊕ List V)) : Prop where
  l : ys.length = zs.length
  g : ∀ (j : Nat) (y : V) (z : V ⊕ List V), ys[j]? = some y → zs[j]? = some z → ItemAt H y z
theorem ItemsAt.keep {H H' : Hp} {ys : List V} {zs : List (V ⊕ List V)} (h : ItemsAt H ys zs) (k : ∀ b xs, H b = some (.tup xs) → H' b = some (.tup xs)) : ItemsAt H' ys zs := ⟨h.l, fun j y z a b => (h.g j y z a b).keep k⟩
theorem ItemsAt.snoc {H : Hp} {ys : List V} {zs : List (V ⊕ List V)} {y : V} {z : V ⊕ List V} (h : ItemsAt H ys zs) (q : ItemAt H y z) : ItemsAt H (ys ++ [y]) (zs ++ [z]) := by
  refine ⟨by rw [List.length_append, List.length_append, h.l]; rfl, fun j u v a b => ?_⟩
  by_cases hj : j < ys.length
  · rw [List.getElem?_append_left hj] at a
    rw [List.getElem?_append_left (by rw [← h.l]; exact hj)] at b
    exact h.g j u v a b
  · have lt := (List.getElem?_eq_some_iff.mp a).1
    rw [List.length_append, List.length_singleton] at lt
    have ej : j = ys.length := by omega
    subst ej
    rw [List.getElem?_append_right (Nat.le_refl _), Nat.sub_self] at a
    rw [h.l, List.getElem?_append_right (Nat.le_refl _), Nat.sub_self] at b
    cases a
    cases b
    exact q
def Told (H : Hp) (oy : Option V) : Option (V ⊕ List V) → Prop
  | none => oy = none
  | some z => ∃ y, oy = some y ∧ ItemAt H y z
def LcAt (J : It) (g : TG) (tt : TT) (te : TE) (vs : List Nat) (σ : L2.St) (H1 : Hp) (D : Addr) (Q : VK) : Prop :=
    ∃ W : Nat → Nat → Hp → Prop, (∃ m, W 0 m (upd H1 D (.lst []))) ∧ ∀ i m H, W i m H →
      (J.stop i H ∧ Q (.ref D) H) ∨ (J.go i H ∧ ∃ Nx : Hp → Prop, (∀ H', Nx H' → ∃ m', m' < m ∧ W (i + 1) m' H') ∧ ∀ x H', J.yld i H x H' → g x (wipe σ vs) H' fun σ2 H2 => wipe σ2 vs = wipe σ vs ∧ tt σ2 H2 fun b H3 =>
        if b = true then te σ2 H3 fun y H4 => ∃ acc, H4 D = some (.lst acc) ∧ acc.length < sizeLine ∧ Nx (upd H4 D (.lst (acc ++ [y]))) else Nx H3)
theorem rd_lcA {wi : TI} {g : TG} {tt : TT} {te : TE} {vs : List Nat} {σ : L2.St} {H : Hp} {Q : VK} (h : wi σ H fun J H1 => ∀ D, H1 D = none → LcAt J g tt te vs σ H1 D Q) : tLc wi g tt te vs σ H Q := h
local macro_rules | `(tactic| walk_at "rd") => `(tactic| (with_reducible refine rd_lcA ?_))
theorem lcA {J : It} {n : Nat} {Y : Hp → Prop} {yl : Nat → Hp → V → Hp → Prop} (wk : Walk J n Y yl) (bs : List (Option (V ⊕ List V))) {g : TG} {tt : TT} {te : TE} {vs : List Nat} {σ : L2.St} {H1 : Hp} {Q : VK} {D : Addr} (hD : H1 D = none) (hY : ∀ H2, Same H1 H2 → Y H2) (hl : bs.length = n) (hz : n ≤ 100000)
    (hs : ∀ (i : Nat) (x : V) (ob : Option (V ⊕ List V)) (H2 H3 : Hp) (C : Option V → Hp → Prop), i < n → Same H1 H2 → yl i H2 x H3 → bs[i]? = some ob → (∀ H4 oy, Same H2 H4 → Told H4 oy ob → C oy H4) →
      g x (wipe σ vs) H3 fun σ2 H4 => wipe σ2 vs = wipe σ vs ∧ tt σ2 H4 fun b H5 => if b = true then te σ2 H5 fun y H6 => C (some y) H6 else C none H5)
    (hd : ∀ H' ys, Same H1 H' → H' D = some (.lst ys) → ItemsAt H' ys (bs.filterMap id) → Q (.ref D) H') :
    LcAt J g tt te vs σ H1 D Q := by
  refine lc_it (Qd := Q (.ref D)) wk (fun i H2 => Same H1 H2 ∧ ∃ ys, H2 D = some (.lst ys) ∧ ItemsAt H2 ys ((bs.take i).filterMap id)) ⟨Same.new hD, [], upd_same, rfl, fun j y z a => by simp at a⟩ (fun i H2 _ q => hY _ q.1) ?_ ?_
  · rintro i x H2 H3 hi ⟨s2, ys, eD, it⟩ hy
    have lt : i < bs.length := by omega
    have hb : bs[i]? = some bs[i] := List.getElem?_eq_getElem lt
    have etk : bs.take (i + 1) = bs.take i ++ [bs[i]] := List.take_succ_eq_append_getElem lt
    have := hs i x _ H2 H3 (fun oy H4 => match oy with | some y => ∃ acc, H4 D = some (.lst acc) ∧ acc.length < sizeLine ∧ (fun H2 => Same H1 H2 ∧ ∃ ys, H2 D = some (.lst ys) ∧ ItemsAt H2 ys ((bs.take (i + 1)).filterMap id)) (upd H4 D (.lst (acc ++ [y]))) | none => Same H1 H4 ∧ ∃ ys, H4 D = some (.lst ys) ∧ ItemsAt H4 ys ((bs.take (i + 1)).filterMap id)) hi s2 hy hb ?_
    · exact this
    · intro H4 oy s4 told
      have it4 : ItemsAt H4 ys ((bs.take i).filterMap id) := it.keep fun b xs e => s4 _ _ e
      have eD4 := s4 _ _ eD
      cases e : bs[i] with
      | none =>
        rw [e] at told
        cases told
        refine ⟨s2.trans s4, ys, eD4, ?_⟩
        rw [etk, List.filterMap_append, e]
        simpa using it4
      | some z =>
        rw [e] at told
        obtain ⟨y, rfl, q⟩ := told
        refine ⟨_, eD4, ?_, fun b o q => ?_, _, upd_same, ?_⟩
        · have h1 := List.length_filterMap_le id (bs.take i)
          have h2 := List.length_take_le i bs
          have h3 := it.l
          rw [sizeLine_eq]; omega
        · rw [upd_ne (ne_of_none q hD)]
          exact s4 _ _ (s2 _ _ q)
        · have k : ∀ b xs, H4 b = some (.tup xs) → upd H4 D (.lst (ys ++ [y])) b = some (.tup xs) := fun b xs q => by
            rw [upd_ne (fun w => by rw [w, eD4] at q; cases q)]
            exact q
          rw [etk, List.filterMap_append, e]
          exact (it4.keep k).snoc (q.keep k)
  · rintro H2 ⟨s2, ys, eD, it⟩
    rw [← hl, List.take_length] at it
    exact hd H2 ys s2 eD it
theorem fm_some {α β : Type} (l : List α) (f : α → β) : (l.map fun a => some (f a)).filterMap id = l.map f := by
  induction l with
  | nil => rfl
  | cons a r ih => simp [List.filterMap_cons]
def mvV (m : Mv) : V ⊕ List V := .inr [.int m.1, .str m.2.1, .int m.2.2]
theorem items_mv {H : Hp} {ms : List Mv} : ∀ {ys : List V}, ItemsAt H ys (ms.map mvV) → ∃ us : List Addr, ys = us.map V.ref ∧ MvsAt H us ms := by
  intro ys h
  have hr : ∃ us : List Addr, ys = us.map V.ref := by
    have : ∀ y ∈ ys, ∃ b, y = V.ref b := fun y hy => by
      obtain ⟨j, hj⟩ := List.getElem?_of_mem hy
      have lt := (List.getElem?_eq_some_iff.mp hj).1
      rw [h.l, List.length_map] at lt
      obtain ⟨b, e, _⟩ := h.g j y (mvV ms[j]) hj (by rw [List.getElem?_map, List.getElem?_eq_getElem lt]; rfl)
      exact ⟨b, e⟩
    clear h
    induction ys with
    | nil => exact ⟨[], rfl⟩
    | cons y r ih =>
      obtain ⟨b, rfl⟩ := this y List.mem_cons_self
      obtain ⟨us, rfl⟩ := ih fun x hx => this x (List.mem_cons_of_mem _ hx)
      exact ⟨b :: us, rfl⟩
  obtain ⟨us, rfl⟩ := hr
  refine ⟨us, rfl, by have := h.l; simpa using this, fun i u m a b => ?_⟩
  obtain ⟨c, e, q⟩ := h.g i (.ref u) (mvV m) (by rw [List.getElem?_map, a]; rfl) (by rw [List.getElem?_map, b]; rfl)
  cases e
  exact q
theorem items_v {H : Hp} {vs : List V} : ∀ {ys : List V}, ItemsAt H ys (vs.map Sum.inl) → ys = vs := by
  intro ys h
  refine List.ext_getElem? fun j => ?_
  have hl := h.l
  rw [List.length_map] at hl
  by_cases hj : j < vs.length
  · rw [List.getElem?_eq_getElem hj, List.getElem?_eq_getElem (by omega)]
    have := h.g j ys[j] (.inl vs[j]) (List.getElem?_eq_getElem (by omega)) (by rw [List.getElem?_map, List.getElem?_eq_getElem hj]; rfl)
    exact congrArg some this
  · rw [List.getElem?_eq_none (by omega), List.getElem?_eq_none (by omega)]
/-! the lot of all texts -/
def evM (t : List Nat) : List Mv := t.map fun c => (0, tx [c], 0)
theorem good_ev {t : List Nat} (ht : ∀ c ∈ t, c ∈ letters) : GoodLot 1 [0] (evM t) where
  n1 := by decide
  n2 := by decide
  la := fun s hs => by rw [List.mem_singleton.mp hs]; decide
  mv := fun m hm => by
    obtain ⟨c, hc, rfl⟩ := List.mem_map.mp hm
    exact ⟨⟨Int.le_refl 0, Int.zero_lt_one⟩, ⟨Int.le_refl 0, Int.zero_lt_one⟩, c, ht c hc, rfl⟩
  de := fun m hm m' hm' _ => by
    obtain ⟨c, _, rfl⟩ := List.mem_map.mp hm
    obtain ⟨c', _, rfl⟩ := List.mem_map.mp hm'
    rfl
theorem lot_every_ok {P : Program} {mg : Str → Option Value} (T : Txt P K mg) {t : List Nat} {H : Hp} {Q : VK} {E : XK} (ht : ∀ c ∈ t, c ∈ letters) (z : t.length ≤ 1000)
    (h : ∀ l tT F tab fin H', Same H H' → H l = none → LotAt K H' l tT F 1 tab fin → TabOf (evM t) tab → (∀ x, x ∈ fin ↔ x ∈ [0]) → fin.Pairwise (· < ·) → Q (.ref l) H') : sp_Lot_every K [.ref (He.ga K "Lot"), .str (tx t)] H Q E := by
  refine ⟨rfl, ?_⟩
  unfold t_Lot_every
  have f0 : fo t = -1 := fo_none t fun j x e => ht x (List.mem_of_getElem? e)
  walk_at "sq"
  walk_at "st"
  refine check_ok (fun _ H1 s1 => ?_) (fun q => by omega)
  walk_at "st"
  refine ⟨rfl, ?_⟩
  walk_at "st"
  intro La hLa
  have sL := Same.new (o := .lst [V.int 0]) hLa
  walk_at "st"
  refine ⟨_, rfl, ?_⟩
  intro D hD
  refine lcA (walk_str (z := tx t)) ((evM t).map fun m => some (mvV m)) hD (fun _ _ => trivial) (by rw [List.length_map]; exact (List.length_map _).trans (tx_len t).symm) (by have := tx_len t; show (tx t).length ≤ _; omega) ?_ ?_
  · rintro i x ob H2 H3 C hi s2 ⟨rfl, c, hc, rfl⟩ hb hC
    rw [tx_get] at hc
    walk_at "st"
    refine ⟨rfl, ?_⟩
    walk_at "st"
    intro p hp
    refine hC _ _ (Same.new hp) ?_
    rw [List.getElem?_map] at hb
    unfold evM at hb
    rw [List.getElem?_map, hc] at hb
    cases hb
    exact ⟨_, rfl, _, rfl, upd_same⟩
  · intro H2 ys s2 eD it
    rw [fm_some] at it
    obtain ⟨us, rfl, hm⟩ := items_mv it
    have eLa := s2 _ _ (show upd H1 La (.lst [V.int 0]) La = _ from upd_same)
    walk_at "st"
    intro l dx hl hdx hne
    have nLa : La ≠ l := ne_of_none eLa hl
    have nD : D ≠ l := ne_of_none eD hl
    have s3 : Same H (upd (upd H2 dx (.own l)) l (.ins (He.ga K "Lot") dx [])) := fun b o e => by
      have e2 := s2 _ _ (sL _ _ (s1 _ _ e))
      rw [upd_ne (ne_of_none e2 hl), upd_ne (ne_of_none e2 hdx)]
      exact e2
    have fr : H l = none := by
      cases q : H l with
      | none => rfl
      | some o => have := s2 _ _ (sL _ _ (s1 _ _ q)); rw [hl] at this; cases this
    have e1 : upd (upd H2 dx (.own l)) l (.ins (He.ga K "Lot") dx []) La = some (.lst ([(0 : Int)].map V.int)) := by
      rw [upd_ne nLa, upd_ne (ne_of_none eLa hdx)]; exact eLa
    have e2 : upd (upd H2 dx (.own l)) l (.ins (He.ga K "Lot") dx []) D = some (.lst (us.map V.ref)) := by
      rw [upd_ne nD, upd_ne (ne_of_none eD hdx)]; exact eD
    have e3 : MvsAt (upd (upd H2 dx (.own l)) l (.ins (He.ga K "Lot") dx [])) us (evM t) := hm.keep fun u xs e => by
      rw [upd_ne (ne_of_none e hl), upd_ne (ne_of_none e hdx)]; exact e
    refine lot_init_ok T upd_same e1 e2 e3 (good_ev ht) (by decide) (by unfold evM; rw [List.length_map]; exact z) (fun i i0 i1 => ?_) fun tT F tab fin H3 k3 fT fF lat tb mf pf => ⟨rfl, ?_⟩
    · have : i = 0 := by omega
      subst this
      exact ⟨.s (by simp), .s (by simp)⟩
    · refine h l tT F tab fin H3 (fun b o e => k3 b o (fun q => by rw [q, fr] at e; cases e) (s3 b o e)) fr lat tb mf pf
/-! the names of a lot of some texts -/
def ltN (a b : List Nat) : Bool := decide (a.length < b.length) || (decide (a.length = b.length) && decide (a < b))
theorem ltN_irrefl (a : List Nat) : ltN a a = false := by
  have := List.lt_irrefl a
  simp [ltN, this]
theorem ltN_asym (a b : List Nat) (h : ltN a b = true) (h' : ltN b a = true) : False := by
  simp only [ltN, Bool.or_eq_true, Bool.and_eq_true, decide_eq_true_eq] at h h'
  rcases h with h | ⟨e, h⟩
  · rcases h' with h' | ⟨e', _⟩ <;> omega
  · rcases h' with h' | ⟨e', h'⟩
    · omega
    · exact List.lt_irrefl a (List.lt_trans h h')
structure Names (ws ns : List (List Nat)) : Prop where
  mem : ∀ p, p ∈ ns ↔ ∃ w ∈ ws, p <+: w
  up : ns.Pairwise fun a b => ltN a b = true
theorem Names.uniq {ws ns ns' : List (List Nat)} (h : Names ws ns) (h' : Names ws ns') : ns = ns' :=
  rise_ext ltN_asym h.up h'.up fun x => (h.mem x).trans (h'.mem x).symm
theorem Names.nd {ws ns : List (List Nat)} (h : Names ws ns) : ns.Nodup :=
  h.up.imp fun {a b} q e => by rw [e, ltN_irrefl] at q; cases q
theorem nodup_len {α : Type} [DecidableEq α] : ∀ {l m : List α}, l.Nodup → (∀ x ∈ l, x ∈ m) → l.length ≤ m.length
  | [], _, _, _ => Nat.zero_le _
  | x :: l, m, nd, h => by
    obtain ⟨n1, n2⟩ := List.nodup_cons.mp nd
    have hx := h x List.mem_cons_self
    have := nodup_len (m := m.erase x) n2 fun y hy => by
      refine (List.mem_erase_of_ne (fun e => n1 (by rw [← e]; exact hy))).mpr (h y (List.mem_cons_of_mem _ hy))
    have e := List.length_erase_of_mem hx
    have : 0 < m.length := List.length_pos_of_mem hx
    rw [List.length_cons]
    omega
theorem sum_le_mul : ∀ (l : List Nat) (k : Nat), (∀ x ∈ l, x ≤ k) → l.sum ≤ l.length * k
  | [], k, _ => by simp
  | x :: l, k, h => by
    have := sum_le_mul l k fun y hy => h y (List.mem_cons_of_mem _ hy)
    have := h x List.mem_cons_self
    rw [List.sum_cons, List.length_cons, Nat.add_mul]
    omega
theorem Names.few {ws ns : List (List Nat)} (h : Names ws ns) (k m : Nat) (hl : ∀ w ∈ ws, w.length ≤ k) (hm : ws.length ≤ m) : ns.length ≤ m * (k + 1) := by
  have h1 := nodup_len (m := ws.flatMap fun w => (List.range (w.length + 1)).map w.take) h.nd fun p hp => by
    obtain ⟨w, hw, q⟩ := (h.mem p).mp hp
    refine List.mem_flatMap.mpr ⟨w, hw, List.mem_map.mpr ⟨p.length, List.mem_range.mpr ?_, ?_⟩⟩
    · have := q.length_le; omega
    · exact (List.prefix_iff_eq_take.mp q).symm
  rw [List.length_flatMap] at h1
  have h2 := sum_le_mul (ws.map fun w => ((List.range (w.length + 1)).map w.take).length) (k + 1) fun x hx => by
    obtain ⟨w, hw, rfl⟩ := List.mem_map.mp hx
    rw [List.length_map, List.length_range]
    have := hl w hw
    omega
  rw [List.length_map] at h2
  exact Nat.le_trans h1 (Nat.le_trans h2 (Nat.mul_le_mul_right _ hm))
def nIx (ns : List (List Nat)) (p : List Nat) : Int := (ns.idxOf p : Nat)
def nMv (ns : List (List Nat)) (p : List Nat) : Mv := (nIx ns p.dropLast, tx [p.getLastD 0], nIx ns p)
def treeM (ns : List (List Nat)) : List Mv := (ns.filter fun p => decide (p ≠ [])).map (nMv ns)
theorem nIx_lt {ns : List (List Nat)} {p : List Nat} (h : p ∈ ns) : 0 ≤ nIx ns p ∧ nIx ns p < ns.length := by
  have := List.idxOf_lt_length_of_mem h
  unfold nIx
  omega
theorem nIx_inj {ns : List (List Nat)} {p q : List Nat} (h : p ∈ ns) (e : nIx ns p = nIx ns q) : p = q := by
  unfold nIx at e
  have e2 : ns.idxOf p = ns.idxOf q := by omega
  have l1 := List.idxOf_lt_length_of_mem h
  have a := List.getElem_idxOf l1
  have l2 : ns.idxOf q < ns.length := by omega
  have b := List.getElem_idxOf l2
  rw [← a, ← b]
  congr 1
theorem app_last {p : List Nat} (h : p ≠ []) : p = p.dropLast ++ [p.getLastD 0] := by
  have e := List.dropLast_concat_getLast h
  rw [List.getLastD_eq_getLast?, List.getLast?_eq_getLast h]
  exact e.symm
theorem Names.nil_mem {ws ns : List (List Nat)} (h : Names ws ns) (hw : ws ≠ []) : [] ∈ ns := by
  cases ws with
  | nil => exact absurd rfl hw
  | cons w r => exact (h.mem []).mpr ⟨w, List.mem_cons_self, List.nil_prefix⟩
theorem Names.drop {ws ns : List (List Nat)} (h : Names ws ns) {p : List Nat} (hp : p ∈ ns) : p.dropLast ∈ ns := by
  obtain ⟨w, hw, q⟩ := (h.mem p).mp hp
  exact (h.mem _).mpr ⟨w, hw, (List.dropLast_prefix p).trans q⟩
theorem Names.nil_ix {ws ns : List (List Nat)} (h : Names ws ns) (hw : ws ≠ []) : nIx ns [] = 0 := by
  have m := h.nil_mem hw
  cases ns with
  | nil => cases m
  | cons a r =>
    have : a = [] := by
      rcases List.mem_cons.mp m with q | q
      · exact q.symm
      · have := (List.pairwise_cons.mp h.up).1 [] q
        simp [ltN] at this
    subst this
    unfold nIx
    rw [List.idxOf_cons_self]
    rfl
theorem Names.sign {ws ns : List (List Nat)} (h : Names ws ns) (hl : ∀ w ∈ ws, ∀ c ∈ w, c ∈ letters) {p : List Nat} (hp : p ∈ ns) : ∀ c ∈ p, c ∈ letters := fun c hc => by
  obtain ⟨w, hw, q⟩ := (h.mem p).mp hp
  exact hl w hw c (q.subset hc)
theorem getLastD_mem {p : List Nat} (h : p ≠ []) : p.getLastD 0 ∈ p := by
  rw [List.getLastD_eq_getLast?, List.getLast?_eq_getLast h]
  exact List.getLast_mem h
theorem mem_treeM {ns : List (List Nat)} {m : Mv} : m ∈ treeM ns ↔ ∃ p ∈ ns, p ≠ [] ∧ m = nMv ns p := by
  unfold treeM
  rw [List.mem_map]
  constructor
  · rintro ⟨p, hp, rfl⟩
    obtain ⟨a, b⟩ := List.mem_filter.mp hp
    exact ⟨p, a, of_decide_eq_true b, rfl⟩
  · rintro ⟨p, a, b, rfl⟩
    exact ⟨p, List.mem_filter.mpr ⟨a, decide_eq_true b⟩, rfl⟩
theorem tree_det {ws ns : List (List Nat)} (h : Names ws ns) : Det (treeM ns) := fun m hm m' hm' e => by
  obtain ⟨p, hp, p0, rfl⟩ := mem_treeM.mp hm
  obtain ⟨q, hq, q0, rfl⟩ := mem_treeM.mp hm'
  have e1 : nIx ns p.dropLast = nIx ns q.dropLast := congrArg Prod.fst e
  have e2 : tx [p.getLastD 0] = tx [q.getLastD 0] := congrArg Prod.snd e
  have d := nIx_inj (h.drop hp) e1
  have l := tx_inj.mp e2
  have : p = q := by rw [app_last p0, app_last q0, d, l]
  rw [this]
theorem tree_reach {ws ns : List (List Nat)} (h : Names ws ns) (hw : ws ≠ []) : ∀ (k : Nat) (p : List Nat), p.length = k → p ∈ ns → Rch (fwE (treeM ns)) [0] (nIx ns p)
  | 0, p, hk, hp => by
    rw [List.length_eq_zero_iff.mp hk, h.nil_ix hw]
    exact .s (by simp)
  | k + 1, p, hk, hp => by
    have p0 : p ≠ [] := fun e => by rw [e] at hk; cases hk
    refine .e (tree_reach h hw k p.dropLast (by rw [List.length_dropLast]; omega) (h.drop hp)) ?_
    exact mem_fwE.mpr ⟨nMv ns p, mem_treeM.mpr ⟨p, hp, p0, rfl⟩, rfl, rfl⟩
theorem tree_back {ws ns : List (List Nat)} (h : Names ws ns) {w : List Nat} (hw : w ∈ ws) : ∀ (k : Nat) (p : List Nat), p.length + k = w.length → p <+: w → Rch (bwE (treeM ns)) (ws.map (nIx ns)) (nIx ns p)
  | 0, p, hk, q => by
    have : p = w := q.eq_of_length (by omega)
    rw [this]
    exact .s (List.mem_map.mpr ⟨w, hw, rfl⟩)
  | k + 1, p, hk, q => by
    obtain ⟨r, rfl⟩ := q
    cases r with
    | nil => simp at hk
    | cons c r =>
      have q2 : p ++ [c] <+: p ++ c :: r := ⟨r, by simp⟩
      have hp : p ++ [c] ∈ ns := (h.mem _).mpr ⟨_, hw, q2⟩
      refine .e (tree_back h hw k (p ++ [c]) (by rw [List.length_append] at hk ⊢; simp at hk ⊢; omega) q2) ?_
      refine mem_bwE.mpr ⟨nMv ns (p ++ [c]), mem_treeM.mpr ⟨_, hp, by simp, rfl⟩, rfl, ?_⟩
      show nIx ns (p ++ [c]).dropLast = _
      rw [List.dropLast_concat]
theorem tree_use {ws ns : List (List Nat)} (h : Names ws ns) (hw : ws ≠ []) (i : Int) (i0 : 0 ≤ i) (i1 : i < ns.length) : Rch (fwE (treeM ns)) [0] i ∧ Rch (bwE (treeM ns)) (ws.map (nIx ns)) i := by
  have lt : i.toNat < ns.length := by omega
  have e : i = nIx ns ns[i.toNat] := by
    unfold nIx
    have := h.nd.idxOf_getElem i.toNat lt
    rw [this]
    omega
  have m : ns[i.toNat] ∈ ns := List.getElem_mem lt
  rw [e]
  obtain ⟨w, hw', q⟩ := (h.mem _).mp m
  exact ⟨tree_reach h hw _ _ rfl m, tree_back h hw' (w.length - ns[i.toNat].length) _ (by have := q.length_le; omega) q⟩
/-! Lot.only -/
theorem loop_it {J : It} {n : Nat} {G : Hp → Prop} {Y : Nat → Hp → V → Hp → Prop} (w : Walk J n G Y) {Fin : Hp → Prop} {Step : (Hp → Prop) → V → Hp → Prop} {H0 : Hp} (Pv : Nat → Hp → Prop) (h0 : Pv 0 H0) (hG : ∀ i H, i ≤ n → Pv i H → G H)
    (hs : ∀ i x H H', i < n → Pv i H → Y i H x H' → Step (Pv (i + 1)) x H') (hd : ∀ H, Pv n H → Fin H) :
    ∃ W : Nat → Nat → Hp → Prop, (∃ m, W 0 m H0) ∧ ∀ i m H, W i m H → (J.stop i H ∧ Fin H) ∨ (J.go i H ∧ ∃ Nx : Hp → Prop, (∀ H', Nx H' → ∃ m', m' < m ∧ W (i + 1) m' H') ∧ ∀ x H', J.yld i H x H' → Step Nx x H') := by
  refine ⟨fun i m H => m = n - i ∧ i ≤ n ∧ Pv i H, ⟨n, by simp, Nat.zero_le _, h0⟩, ?_⟩
  rintro i m H ⟨rfl, hi, p⟩
  have q := hG i H hi p
  by_cases hlt : i < n
  · exact .inr ⟨w.goes i H hlt q, Pv (i + 1), fun H' p' => ⟨n - (i + 1), by omega, rfl, hlt, p'⟩, fun x H' y => hs i x H H' hlt p (w.yields i H x H' hlt q y)⟩
  · have e : i = n := by omega
    subst e
    exact .inl ⟨w.stops H q, hd H p⟩
def txK (p : List Nat) : Key := .inr (tx p)
def pf (w : List Nat) : List (List Nat) := (List.range (w.length + 1)).map w.take
theorem pf_mem {w p : List Nat} : p ∈ pf w ↔ p <+: w := by
  unfold pf
  rw [List.mem_map]
  constructor
  · rintro ⟨k, _, rfl⟩
    exact List.take_prefix _ _
  · intro h
    refine ⟨p.length, List.mem_range.mpr ?_, (List.prefix_iff_eq_take.mp h).symm⟩
    have := h.length_le
    omega
theorem cmp_txt (zs : List (List Nat)) : SetX.Cmpb SetX.memK (zs.map txK) where
  al := fun d hd d' hd' => by
    obtain ⟨x, hx, rfl⟩ := List.mem_map.mp hd
    obtain ⟨y, hy, rfl⟩ := List.mem_map.mp hd'
    obtain ⟨i, _, rfl⟩ := List.mem_map.mp hx
    obtain ⟨j, _, rfl⟩ := List.mem_map.mp hy
    rfl
  so := .inr fun d hd => by
    obtain ⟨x, hx, rfl⟩ := List.mem_map.mp hd
    obtain ⟨i, _, rfl⟩ := List.mem_map.mp hx
    exact ⟨(fun z => nomatch z), fun _ z => nomatch z⟩
  dp := fun x hx => by
    obtain ⟨i, _, rfl⟩ := List.mem_map.mp hx
    exact Nat.zero_le _
def keyT : Key → List Nat
  | .inl _ => []
  | .inr x => x.cps.toList
theorem lst_tri {a b : List Nat} (h : ¬ b < a) : a < b ∨ a = b := by
  by_cases q : a < b
  · exact .inl q
  · exact .inr (List.le_antisymm (List.not_lt.mp h) (List.not_lt.mp q))
theorem names_of {ws : List (List Nat)} {L : List Key} (g : SetX.Got SetX.kD ((ws.flatMap pf).map txK) L) : ∃ ps : List (List Nat), (L.mergeSort (PySem.W.dataLe false SetX.kD)).map kV = ps.map (fun p => V.str (tx p)) ∧ (ps.Pairwise fun a b => a < b) ∧ ∀ p, p ∈ ps ↔ ∃ w ∈ ws, p <+: w := by
  have pm : (L.mergeSort (PySem.W.dataLe false SetX.kD)).Perm L := List.mergeSort_perm _ _
  have all : ∀ k ∈ L.mergeSort (PySem.W.dataLe false SetX.kD), ∃ p, k = txK p ∧ p ∈ ws.flatMap pf := fun k hk => by
    obtain ⟨p, hp, e⟩ := List.mem_map.mp (g.sub k (pm.mem_iff.mp hk))
    exact ⟨p, e.symm, hp⟩
  have memw : ∀ p, p ∈ ws.flatMap pf ↔ ∃ w ∈ ws, p <+: w := fun p => by
    rw [List.mem_flatMap]
    exact ⟨fun ⟨w, a, b⟩ => ⟨w, a, pf_mem.mp b⟩, fun ⟨w, a, b⟩ => ⟨w, a, pf_mem.mpr b⟩⟩
  have kt : ∀ p, keyT (txK p) = p := fun p => by simp [keyT, txK, tx]
  refine ⟨(L.mergeSort (PySem.W.dataLe false SetX.kD)).map keyT, ?_, ?_, fun p => ?_⟩
  · rw [List.map_map]
    apply List.map_congr_left
    intro k hk
    obtain ⟨p, rfl, _⟩ := all k hk
    show kV (txK p) = V.str (tx (keyT (txK p)))
    rw [kt]
    rfl
  · have tot : PySem.W.TotalLe (PySem.W.dataLe false SetX.kD) := PySem.W.sortLe_total _ _ _
    have pw := PySem.W.sort_pairwise tot L
    have ndk : (L.mergeSort (PySem.W.dataLe false SetX.kD)).Nodup := by
      refine pm.nodup_iff.mpr ?_
      exact List.Pairwise.of_map SetX.kD (fun a b hne e => hne (by rw [e])) g.nd
    rw [List.pairwise_map]
    have both := List.pairwise_and_iff.mpr ⟨pw, ndk⟩
    refine List.Pairwise.imp_of_mem (fun {a b} ha hb q => ?_) both
    obtain ⟨i, rfl, _⟩ := all a ha
    obtain ⟨j, rfl, _⟩ := all b hb
    have q1 : PySem.W.dataLe false SetX.kD (txK i) (txK j) = true := q.1
    have q2 : txK i ≠ txK j := q.2
    have e2 : PySem.W.dataLe false SetX.kD (txK i) (txK j) = !PySem.W.dataLt (.str (tx j)) (.str (tx i)) := rfl
    rw [e2, PySem.W.dataLt_str, tx_toList, tx_toList, Bool.not_eq_true', decide_eq_false_iff_not] at q1
    rw [kt, kt]
    have ne : i ≠ j := fun z => q2 (by rw [z])
    rcases lst_tri q1 with z | z
    · exact z
    · exact absurd z ne
  · rw [List.mem_map, ← memw]
    constructor
    · rintro ⟨k, hk, rfl⟩
      obtain ⟨q, rfl, hq⟩ := all k hk
      rw [kt]
      exact hq
    · intro hp
      obtain ⟨k, hk, e⟩ := g.all (txK p) (List.mem_map.mpr ⟨p, hp, rfl⟩)
      have := SetX.kD_inj e
      subst this
      exact ⟨_, pm.mem_iff.mpr hk, kt p⟩
theorem pair_of_lt : ∀ {l : List (List Nat)} {a b : List Nat}, (l.Pairwise fun a b => a < b) → a ∈ l → b ∈ l → a < b → [a, b].Sublist l
  | x :: l, a, b, up, ha, hb, h => by
    obtain ⟨u1, u2⟩ := List.pairwise_cons.mp up
    rcases List.mem_cons.mp ha with e | e
    · subst e
      rcases List.mem_cons.mp hb with e2 | e2
      · rw [e2] at h; exact absurd h (List.lt_irrefl _)
      · exact List.Sublist.cons_cons _ (List.singleton_sublist.mpr e2)
    · rcases List.mem_cons.mp hb with e2 | e2
      · subst e2
        exact absurd (List.lt_trans h (u1 a e)) (List.lt_irrefl _)
      · exact (pair_of_lt u2 e e2 h).cons _
theorem pair_once {α : Type} : ∀ {l : List α} {a b : α}, l.Nodup → [a, b].Sublist l → [b, a].Sublist l → False
  | x :: l, a, b, nd, h1, h2 => by
    obtain ⟨n1, n2⟩ := List.nodup_cons.mp nd
    cases h1 with
    | cons _ h1 =>
      cases h2 with
      | cons _ h2 => exact pair_once n2 h1 h2
      | cons_cons _ h2 => exact n1 (h1.subset (by simp))
    | cons_cons _ h1 =>
      cases h2 with
      | cons _ h2 => exact n1 (h2.subset (by simp))
      | cons_cons _ h2 => exact n1 (h1.subset (by simp))
theorem srtLen_names {ws ns ps : List (List Nat)} (nm : Names ws ns) (up : ps.Pairwise fun a b => a < b) (mem : ∀ p, p ∈ ps ↔ ∃ w ∈ ws, p <+: w) : srtLen (ps.map tx) = ns.map tx := by
  have pm : (srtLen (ps.map tx)).Perm (ps.map tx) := List.mergeSort_perm _ _
  have tot : PySem.W.TotalLe (PySem.W.dataLe false fun x : Str => .int (x.length : Int)) := PySem.W.sortLe_total _ _ _
  have pw := PySem.W.sort_pairwise tot (ps.map tx)
  have nd : ps.Nodup := up.imp fun {a b} h e => by rw [e] at h; exact List.lt_irrefl _ h
  have ndt : (ps.map tx).Nodup := List.Pairwise.map tx (fun a b h e => h (tx_inj.mp e)) nd
  have ndr : (srtLen (ps.map tx)).Nodup := pm.nodup_iff.mpr ndt
  have er : ∀ x ∈ srtLen (ps.map tx), ∃ p ∈ ps, x = tx p := fun x hx => by
    obtain ⟨p, hp, e⟩ := List.mem_map.mp (pm.mem_iff.mp hx)
    exact ⟨p, hp, e.symm⟩
  have q : (srtLen (ps.map tx)).map (fun x => x.cps.toList) = ns := by
    refine Names.uniq (ws := ws) ⟨fun p => ?_, ?_⟩ nm
    · rw [← mem p, List.mem_map]
      constructor
      · rintro ⟨x, hx, rfl⟩
        obtain ⟨p, hp, rfl⟩ := er x hx
        rw [tx_toList]; exact hp
      · intro hp
        exact ⟨tx p, pm.mem_iff.mpr (List.mem_map.mpr ⟨p, hp, rfl⟩), tx_toList p⟩
    · rw [List.pairwise_map, List.pairwise_iff_forall_sublist]
      intro x y sub
      obtain ⟨a, ha, rfl⟩ := er x (sub.subset (by simp))
      obtain ⟨b, hb, rfl⟩ := er y (sub.subset (by simp))
      rw [tx_toList, tx_toList]
      have le := List.pairwise_iff_forall_sublist.mp pw sub
      have e2 : PySem.W.dataLe false (fun x : Str => PyData.int (x.length : Int)) (tx a) (tx b) = !PySem.W.dataLt (.int ((tx b).length : Int)) (.int ((tx a).length : Int)) := rfl
      rw [e2, PySem.W.dataLt_int, PySem.W.not_lt_int, tx_len, tx_len] at le
      have le := of_decide_eq_true le
      unfold ltN
      by_cases hlt : a.length < b.length
      · simp [hlt]
      · have el : a.length = b.length := by omega
        have ne : a ≠ b := fun e => by
          rw [e] at sub
          exact pair_once ndr sub sub
        by_cases hab : a < b
        · simp [hab, el]
        · exfalso
          have hba : b < a := (lst_tri hab).resolve_right fun e => ne e.symm
          have s1 := (pair_of_lt up hb ha hba).map tx
          have s2 : [tx b, tx a].Sublist (srtLen (ps.map tx)) := List.pair_sublist_mergeSort tot.trans (fun x y => by rcases tot.total x y with z | z <;> rw [z] <;> simp) (by
            show (!PySem.W.dataLt (.int ((tx a).length : Int)) (.int ((tx b).length : Int))) = true
            rw [PySem.W.dataLt_int, PySem.W.not_lt_int, tx_len, tx_len]
            exact decide_eq_true (by omega)) s1
          exact pair_once ndr sub s2
  have e3 : srtLen (ps.map tx) = ((srtLen (ps.map tx)).map (fun x => x.cps.toList)).map tx := by
    rw [List.map_map]
    conv => lhs; rw [← List.map_id (srtLen (ps.map tx))]
    apply List.map_congr_left
    intro x _
    exact (tx_self x).symm
  rw [e3, q]
theorem cut_init (l : List Nat) : cutS (tx l) none (some (-1)) = tx l.dropLast := by
  unfold cutS
  rw [tx_toList, tx_len, sIx_none]
  have e : HT.sIx l.length l.length (some (-1)) = l.length - 1 := by
    show (if (-1 : Int) < 0 then ((-1 : Int) + (l.length : Int)).toNat else min (-1 : Int).toNat l.length) = _
    rw [if_pos (by decide)]
    omega
  rw [e, List.dropLast_eq_take]
  rfl
theorem atI_last {p : List Nat} (h : p ≠ []) : atI p (-1) = some (p.getLastD 0) := by
  have hl := List.length_pos_iff.mpr h
  unfold atI ixN
  rw [if_neg (by decide), if_pos (by omega)]
  show p[_]? = _
  rw [List.getLastD_eq_getLast?, List.getLast?_eq_getElem?]
  have e : ((-1 : Int) + (p.length : Int)).toNat = p.length - 1 := by omega
  rw [e, List.getElem?_eq_getElem (by omega)]
  rfl
def nKv (ns l : List (List Nat)) : List (Key × V) := l.map fun p => (txK p, V.int (nIx ns p))
theorem nKv_val (ns : List (List Nat)) : ∀ (l : List (List Nat)) (p : List Nat), valV (nKv ns l) (txK p) = if p ∈ l then some (V.int (nIx ns p)) else none
  | [], p => by simp [nKv, valV_nil]
  | q :: l, p => by
    by_cases h : q = p
    · subst h
      rw [if_pos List.mem_cons_self]
      exact valV_pos (p := (txK q, V.int (nIx ns q))) rfl
    · have hv : valV (nKv ns (q :: l)) (txK p) = valV (nKv ns l) (txK p) := valV_neg (p := (txK q, V.int (nIx ns q))) (fun e => h (tx_inj.mp (Sum.inr.inj e)))
      rw [hv, nKv_val ns l p]
      by_cases m : p ∈ l
      · rw [if_pos m, if_pos (List.mem_cons_of_mem _ m)]
      · rw [if_neg m, if_neg (fun z => (List.mem_cons.mp z).elim (fun e => h e.symm) m)]
theorem fm_tree (ns : List (List Nat)) : ∀ l : List (List Nat), (l.map fun p => if p = [] then none else some (mvV (nMv ns p))).filterMap id = ((l.filter fun p => decide (p ≠ [])).map (nMv ns)).map mvV
  | [] => rfl
  | p :: l => by
    by_cases h : p = []
    · simp [h, fm_tree ns l]
    · simp [h, fm_tree ns l]
theorem rd_sortSc2 {B : SetX.Mem} {wi wi1 : TI} {g g1 : TG} {tt tt1 : TT} {te : TE} {vs vs1 : List Nat} {σ : L2.St} {H : Hp} {Q : VK} (h : wi σ H fun J H1 => ∀ (D : Addr) (SO : List B.M → HO), H1 D = none → SetX.Lp2 B K SO D J H1 g tt wi1 g1 tt1 te vs vs1 σ (SetX.Done B K SO D Q)) : SetX.tSortSc2 B K wi g tt wi1 g1 tt1 te vs vs1 σ H Q := h
theorem rd_sortLen {te : TE} {σ : L2.St} {H : Hp} {Q : VK} (h : te σ H fun v H1 => ∃ (a : Addr) (ss : List Str), v = V.ref a ∧ SqL K H1 a (ss.map V.str) ∧ (∀ x ∈ ss, x.length ≤ 1000000) ∧ ∀ p : Addr, H1 p = none → Q (.ref p) (upd H1 p (.lst ((srtLen ss).map V.str)))) : tSortLen K te σ H Q := h
theorem rd_iTup {tl : TE} {σ : L2.St} {H : Hp} {R : It → Hp → Prop} (h : tl σ H fun x H1 => ∃ a, x = .ref a ∧ (∃ xs, SqT K H1 a xs) ∧ R (Itt K a) H1) : iTup K tl σ H R := h
theorem rd_iEnum {ta : TA} {σ : L2.St} {H : Hp} {R : It → Hp → Prop} (h : ta σ H fun vs H1 => ∃ a xs, vs = [.ref a] ∧ SqL K H1 a xs ∧ R (Ite K a) H1) : iEnum K ta σ H R := h
theorem rd_dc {wi : TI} {g : TG} {tt : TT} {tk tv : TE} {vs : List Nat} {σ : L2.St} {H : Hp} {Q : VK} (h : wi σ H fun J H1 => ∀ D, H1 D = none → ∃ W : Nat → Nat → Hp → Prop, (∃ m, W 0 m (upd H1 D (.dK []))) ∧ ∀ i m H, W i m H →
    (J.stop i H ∧ Q (.ref D) H) ∨ (J.go i H ∧ ∃ Nx : Hp → Prop, (∀ H', Nx H' → ∃ m', m' < m ∧ W (i + 1) m' H') ∧ ∀ x H', J.yld i H x H' → g x (wipe σ vs) H' fun σ2 H2 => wipe σ2 vs = wipe σ vs ∧ tt σ2 H2 fun b H3 =>
      if b = true then tk σ2 H3 fun y H4 => tv σ2 H4 fun z H5 => ∃ kvs k, y = kV k ∧ H5 D = some (.dK kvs) ∧ kvs.length < sizeLine ∧ Nx (upd H5 D (.dK (putK kvs k z))) else Nx H3)) : tDc wi g tt tk tv vs σ H Q := h
local macro_rules | `(tactic| walk_at "rd") => `(tactic| first | (with_reducible refine rd_sortSc2 ?_) | (with_reducible refine rd_sortLen ?_) | (with_reducible refine rd_iTup ?_) | (with_reducible refine rd_iEnum ?_) | (with_reducible refine rd_dc ?_))
theorem inV_ints (i : Int) : ∀ l : List Int, inV (.int i) (l.map V.int) = decide (i ∈ l)
  | [] => rfl
  | j :: r => by
    have ih := inV_ints i r
    unfold inV at ih ⊢
    rw [List.map_cons, List.any_cons, ih]
    by_cases h : i = j
    · subst h; simp [eqV]
    · have h2 : j ≠ i := fun z => h z.symm
      simp [eqV, h, h2]
theorem flat_ints (l : List Int) : (l.map V.int).all flatV = true := by
  rw [List.all_eq_true]
  intro x hx
  obtain ⟨i, _, rfl⟩ := List.mem_map.mp hx
  rfl
theorem inA_ints {K : Frg} {p : Addr} {i : Int} {l : List Int} {H : Hp} {Q : VK} (hp : SqL K H p (l.map V.int)) (h : Q (.bl (decide (i ∈ l))) H) : rInA K (.int i) (.ref p) H Q := inA_seq (.inl hp) rfl (flat_ints l) (by rw [inV_ints]; exact h)
theorem notInA_ints {K : Frg} {p : Addr} {i : Int} {l : List Int} {H : Hp} {Q : VK} (hp : SqL K H p (l.map V.int)) (h : Q (.bl (!decide (i ∈ l))) H) : rNotInA K (.int i) (.ref p) H Q := .inr ⟨p, _, rfl, .inl hp, rfl, flat_ints l, by rw [inV_ints]; exact h⟩
/-! _law_tree -/
structure NmAt (H : Hp) (us : List Addr) (qs : List (List Nat)) : Prop where
  l : us.length = qs.length
  g : ∀ (i : Nat) (u : Addr) (q : List Nat), us[i]? = some u → qs[i]? = some q → H u = some (.tup [.int (q.length : Int), .str (tx q)])
theorem NmAt.keep {H H' : Hp} {us : List Addr} {qs : List (List Nat)} (h : NmAt H us qs) (k : ∀ u xs, H u = some (.tup xs) → H' u = some (.tup xs)) : NmAt H' us qs := ⟨h.l, fun i u q a b => k _ _ (h.g i u q a b)⟩
theorem NmAt.snoc {H : Hp} {us : List Addr} {qs : List (List Nat)} {u : Addr} {q : List Nat} (h : NmAt H us qs) (e : H u = some (.tup [.int (q.length : Int), .str (tx q)])) : NmAt H (us ++ [u]) (qs ++ [q]) := by
  refine ⟨by rw [List.length_append, List.length_append, h.l]; rfl, fun j b r a1 a2 => ?_⟩
  by_cases hj : j < us.length
  · rw [List.getElem?_append_left hj] at a1
    rw [List.getElem?_append_left (by rw [← h.l]; exact hj)] at a2
    exact h.g j b r a1 a2
  · have lt := (List.getElem?_eq_some_iff.mp a1).1
    rw [List.length_append, List.length_singleton] at lt
    have ej : j = us.length := by omega
    subst ej
    rw [List.getElem?_append_right (Nat.le_refl _), Nat.sub_self] at a1
    rw [h.l, List.getElem?_append_right (Nat.le_refl _), Nat.sub_self] at a2
    cases a1
    cases a2
    exact e
def nmD (q : List Nat) : PyData := .tuple [.int (q.length : Int), .str (tx q)]
theorem dataLt_nm (a b : List Nat) : PySem.W.dataLt (nmD a) (nmD b) = ltN a b := by
  unfold nmD ltN
  rw [PySem.W.dataLt_tuple, PySem.W.dataLt_cons (by simp [PySem.W.alike]), PySem.W.dataLt_cons (by simp [PySem.W.alike]), PySem.W.dataLt_int, PySem.W.dataLt_str]
  have e : PyProof.Rows.lexLt PyProof.Rows.itemOrd (PySem.W.keyToksAll []) (PySem.W.keyToksAll []) = false := PyProof.Rows.lex_irrefl _
  rw [e, tx_toList, tx_toList]
  have i1 : ∀ a b : Int, PyData.eqv (.int a) (.int b) = decide (a = b) := fun a b => by by_cases h : a = b <;> simp [PyData.eqv, h]
  have s1 : ∀ a b : Str, PyData.eqv (.str a) (.str b) = decide (a = b) := fun a b => by by_cases h : a = b <;> simp [PyData.eqv, h]
  rw [i1, s1]
  by_cases h1 : a.length = b.length
  · by_cases h2 : a = b
    · have := List.lt_irrefl b
      simp [h2, this]
    · have h3 : tx a ≠ tx b := fun e => h2 (tx_inj.mp e)
      simp [h1, h3]
  · have : ¬ ((a.length : Int) = (b.length : Int)) := by omega
    simp [h1, this]
def sortN (qs : List (List Nat)) : List (List Nat) := qs.mergeSort (PySem.W.dataLe false nmD)
theorem ltN_conn {a b : List Nat} (h : ltN a b = false) (h' : ltN b a = false) : a = b := by
  simp only [ltN, Bool.or_eq_false_iff, Bool.and_eq_false_iff, decide_eq_false_iff_not] at h h'
  have e : a.length = b.length := by omega
  have h1 := h.2.resolve_left fun z => z e
  have h2 := h'.2.resolve_left fun z => z e.symm
  exact List.le_antisymm (List.not_lt.mp h2) (List.not_lt.mp h1)
/-! dicts from ints to ints; how far a last state is -/
abbrev Fd := List (Int × Int)
def fK (f : Fd) : List (Key × V) := f.map fun p => (.inl p.1, .int p.2)
def dom (f : Fd) : List Int := f.map Prod.fst
def setF (f : Fd) (i v : Int) : Fd := if i ∈ dom f then f.map (fun p => if p.1 = i then (i, v) else p) else f ++ [(i, v)]
theorem fK_val : ∀ (f : Fd) (i : Int), valV (fK f) (.inl i) = (f.lookup i).map V.int
  | [], _ => rfl
  | (a, b) :: r, i => by
    by_cases h : a = i
    · subst h
      have e : valV (fK ((a, b) :: r)) (.inl a) = some (V.int b) := valV_pos (p := ((.inl a : Key), V.int b)) rfl
      rw [e]
      simp [List.lookup]
    · have e : valV (fK ((a, b) :: r)) (.inl i) = valV (fK r) (.inl i) := valV_neg (p := ((.inl a : Key), V.int b)) (fun q => h (Sum.inl.inj q))
      have h2 : (i == a) = false := beq_eq_false_iff_ne.mpr fun z => h z.symm
      rw [e, fK_val r i]
      simp [List.lookup, h2]
theorem dom_look : ∀ (f : Fd) (i : Int), i ∈ dom f ↔ (f.lookup i).isSome = true
  | [], i => by simp [dom]
  | (a, b) :: r, i => by
    by_cases h : i = a
    · subst h; simp [dom, List.lookup]
    · have h2 : (i == a) = false := beq_eq_false_iff_ne.mpr h
      have := dom_look r i
      simp only [dom, List.map_cons, List.mem_cons, List.lookup, h2, h, false_or] at this ⊢
      exact this
theorem fK_put (f : Fd) (i v : Int) : putK (fK f) (.inl i) (.int v) = fK (setF f i v) := by
  unfold setF
  by_cases h : i ∈ dom f
  · rw [if_pos h]
    have h1 := (dom_look f i).mp h
    unfold putK
    rw [valV_any, fK_val, Option.isSome_map, h1]
    simp only [if_true]
    unfold fK
    rw [List.map_map, List.map_map]
    apply List.map_congr_left
    rintro ⟨a, b⟩ _
    by_cases e : a = i
    · subst e; simp
    · have e2 : (Sum.inl a : Key) ≠ .inl i := fun q => e (Sum.inl.inj q)
      simp [e]
  · rw [if_neg h]
    have h1 : valV (fK f) (.inl i) = none := by
      rw [fK_val]
      cases q : f.lookup i with
      | none => rfl
      | some w => exact absurd ((dom_look f i).mpr (by rw [q]; rfl)) h
    rw [putK_new _ h1]
    simp [fK]
theorem look_set : ∀ (f : Fd) (i v j : Int), (setF f i v).lookup j = if j = i then some v else f.lookup j := by
  intro f i v j
  have e1 := fK_val (setF f i v) j
  rw [← fK_put, valV_put, fK_val] at e1
  have inj : ∀ a b : Option Int, a.map V.int = b.map V.int → a = b := fun a b h => by
    cases a <;> cases b <;> simp at h ⊢
    exact h
  apply inj
  rw [← e1]
  by_cases h : j = i
  · subst h; simp
  · have : (Sum.inl j : Key) ≠ .inl i := fun q => h (Sum.inl.inj q)
    rw [if_neg this, if_neg h]
theorem dom_set (f : Fd) (i v : Int) : dom (setF f i v) = if i ∈ dom f then dom f else dom f ++ [i] := by
  unfold setF
  by_cases h : i ∈ dom f
  · rw [if_pos h, if_pos h]
    unfold dom
    rw [List.map_map]
    apply List.map_congr_left
    rintro ⟨a, b⟩ _
    by_cases e : a = i
    · subst e; simp
    · simp [e]
  · rw [if_neg h, if_neg h]
    simp [dom]
theorem nd_set {f : Fd} {i v : Int} (nd : (dom f).Nodup) : (dom (setF f i v)).Nodup := by
  rw [dom_set]
  by_cases h : i ∈ dom f
  · rw [if_pos h]; exact nd
  · rw [if_neg h]
    exact List.nodup_append.mpr ⟨nd, by simp, fun a ha b hb e => h (by rw [List.mem_singleton.mp hb] at e; exact e ▸ ha)⟩
/-- what holds of the distances -/
structure FarOk (ms : List Mv) (last : List Int) (n b : Int) (f : Fd) : Prop where
  nd : (dom f).Nodup
  la : ∀ s ∈ last, f.lookup s = some 0
  bd : ∀ s v, f.lookup s = some v → 0 ≤ v ∧ v ≤ b
  wi : ∀ s v, f.lookup s = some v → s ∈ last ∨ ∃ m ∈ ms, m.1 = s ∧ ∃ w, f.lookup m.2.2 = some w ∧ w + 1 ≤ v
  st : ∀ s ∈ dom f, 0 ≤ s ∧ s < n
theorem FarOk.mono {ms : List Mv} {last : List Int} {n b b' : Int} {f : Fd} (h : FarOk ms last n b f) (q : b ≤ b') : FarOk ms last n b' f :=
  ⟨h.nd, h.la, fun s v e => ⟨(h.bd s v e).1, by have := (h.bd s v e).2; omega⟩, h.wi, h.st⟩
theorem FarOk.put {ms : List Mv} {last : List Int} {n b w : Int} {f : Fd} {m : Mv} (h : FarOk ms last n b f) (hm : m ∈ ms) (hs : 0 ≤ m.1 ∧ m.1 < n) (hg : f.lookup m.2.2 = some w) (hb : b ≤ 97) (hc : ((f.lookup m.1).getD 99) > w + 1) : FarOk ms last n (b + 1) (setF f m.1 (w + 1)) := by
  have w0 := h.bd _ _ hg
  have nl : m.1 ∉ last := fun q => by
    rw [h.la _ q] at hc
    simp at hc
    omega
  have ng : m.2.2 ≠ m.1 := fun q => by
    rw [← q, hg] at hc
    simp at hc
    omega
  refine ⟨nd_set h.nd, fun s hs => ?_, fun s v e => ?_, fun s v e => ?_, fun s hs' => ?_⟩
  · rw [look_set, if_neg (fun q : s = m.1 => nl (q ▸ hs))]
    exact h.la s hs
  · rw [look_set] at e
    by_cases q : s = m.1
    · rw [if_pos q] at e
      cases e
      omega
    · rw [if_neg q] at e
      have := h.bd s v e
      omega
  · rw [look_set] at e
    by_cases q : s = m.1
    · rw [if_pos q] at e
      cases e
      refine .inr ⟨m, hm, q.symm, w, ?_, Int.le_refl _⟩
      rw [look_set, if_neg ng]
      exact hg
    · rw [if_neg q] at e
      rcases h.wi s v e with z | ⟨m', hm', e1, w', e2, le⟩
      · exact .inl z
      · refine .inr ⟨m', hm', e1, ?_⟩
        by_cases q2 : m'.2.2 = m.1
        · refine ⟨w + 1, by rw [look_set, if_pos q2], ?_⟩
          rw [q2] at e2
          rw [e2] at hc
          simp at hc
          omega
        · exact ⟨w', by rw [look_set, if_neg q2]; exact e2, le⟩
  · rw [dom_set] at hs'
    by_cases q : m.1 ∈ dom f
    · rw [if_pos q] at hs'
      exact h.st s hs'
    · rw [if_neg q] at hs'
      rcases List.mem_append.mp hs' with z | z
      · exact h.st s z
      · rw [List.mem_singleton.mp z]; exact hs
/-- behind k rounds: a set that stays, or more than k states -/
def Grew (ms : List Mv) (last : List Int) (k : Nat) (f : Fd) : Prop := (∃ C : List Int, (∀ x ∈ last, x ∈ C) ∧ (∀ x ∈ C, x ∈ dom f) ∧ ∀ m ∈ ms, m.2.2 ∈ C → m.1 ∈ C) ∨ k + 1 ≤ (dom f).length
theorem Grew.step {ms : List Mv} {last : List Int} {k : Nat} {f g : Fd} (h : Grew ms last k f) (nf : (dom f).Nodup) (ng : (dom g).Nodup) (sub : ∀ x ∈ dom f, x ∈ dom g) (la : ∀ x ∈ last, x ∈ dom f) (rd : ∀ m ∈ ms, m.2.2 ∈ dom f → m.1 ∈ dom g) : Grew ms last (k + 1) g := by
  rcases h with ⟨C, c1, c2, c3⟩ | h
  · exact .inl ⟨C, c1, fun x hx => sub x (c2 x hx), c3⟩
  · by_cases q : ∀ x ∈ dom g, x ∈ dom f
    · exact .inl ⟨dom g, fun x hx => sub x (la x hx), fun x hx => hx, fun m hm e => rd m hm (q _ e)⟩
    · refine .inr ?_
      have : ∃ x ∈ dom g, x ∉ dom f := by
        by_cases z : ∃ x ∈ dom g, x ∉ dom f
        · exact z
        · exact absurd (fun x hx => by
            by_cases w : x ∈ dom f
            · exact w
            · exact absurd ⟨x, hx, w⟩ z) q
      obtain ⟨x, hx, nx⟩ := this
      have := nodup_len (l := x :: dom f) (m := dom g) (List.nodup_cons.mpr ⟨nx, nf⟩) fun y hy => by
        rcases List.mem_cons.mp hy with e | e
        · rw [e]; exact hx
        · exact sub y e
      rw [List.length_cons] at this
      omega
theorem ints_below {l : List Int} {n : Int} (nd : l.Nodup) (h : ∀ s ∈ l, 0 ≤ s ∧ s < n) : l.length ≤ n.toNat := by
  have := nodup_len (m := (List.range n.toNat).map fun (k : Nat) => (k : Int)) nd fun x hx => by
    have := h x hx
    exact List.mem_map.mpr ⟨x.toNat, List.mem_range.mpr (by omega), by omega⟩
  rw [List.length_map, List.length_range] at this
  exact this
theorem Grew.all {ms : List Mv} {last : List Int} {n b : Int} {f : Fd} (h : Grew ms last 8 f) (ok : FarOk ms last n b f) (hn : n ≤ 8) {i : Int} (r : Rch (bwE ms) last i) : i ∈ dom f := by
  rcases h with ⟨C, c1, c2, c3⟩ | h
  · refine c2 _ ?_
    induction r with
    | s hx => exact c1 _ hx
    | e _ hy ih =>
      obtain ⟨m, hm, e1, e2⟩ := mem_bwE.mp hy
      rw [← e2]
      exact c3 m hm (e1 ▸ ih)
  · have := ints_below ok.nd ok.st
    omega
/-! _law_from_lot, walked -/
theorem MvsAt.cons {H : Hp} {u : Addr} {m : Mv} {us : List Addr} {ms : List Mv} (e : H u = some (.tup [.int m.1, .str m.2.1, .int m.2.2])) (h : MvsAt H us ms) : MvsAt H (u :: us) (m :: ms) := by
  refine ⟨by rw [List.length_cons, List.length_cons, h.l], fun i v q a b => ?_⟩
  cases i with
  | zero => cases a; cases b; exact e
  | succ i => exact h.g i v q a b
theorem filt_mvs {H : Hp} (p : Mv → Bool) : ∀ {us : List Addr} {ms : List Mv}, MvsAt H us ms → ∃ os : List Addr, ((us.zip ms).map fun q => if p q.2 = true then some (Sum.inl (V.ref q.1) : V ⊕ List V) else none).filterMap id = (os.map V.ref).map Sum.inl ∧ MvsAt H os (ms.filter p)
  | [], [], _ => ⟨[], rfl, rfl, fun i u m a => by simp at a⟩
  | [], _ :: _, h => absurd h.l (by simp)
  | _ :: _, [], h => absurd h.l (by simp)
  | u :: us, m :: ms, h => by
    obtain ⟨os, e, q⟩ := filt_mvs p (us := us) (ms := ms) ⟨by have := h.l; simp at this; exact this, fun i a b e1 e2 => h.g (i + 1) a b e1 e2⟩
    by_cases c : p m = true
    · refine ⟨u :: os, ?_, ?_⟩
      · rw [List.zip_cons_cons, List.map_cons, if_pos c, List.filterMap_cons, e]
        rfl
      · rw [List.filter_cons, if_pos c]
        exact q.cons (h.g 0 u m rfl rfl)
    · refine ⟨os, ?_, ?_⟩
      · rw [List.zip_cons_cons, List.map_cons, if_neg c, List.filterMap_cons, e]
        rfl
      · rw [List.filter_cons, if_neg c]
        exact q
/-! _law_led_from -/
def prV (p : Int × Int) : V ⊕ List V := .inr [.int p.1, .int p.2]
def amM (ar : List (Int × Int)) : List Mv := ar.map fun p => (p.2, tx [], p.1)
def fdOf (l : List Int) : Fd := l.map fun x => (x, 0)
theorem dom_fdOf (l : List Int) : dom (fdOf l) = l := by
  unfold dom fdOf
  rw [List.map_map]
  exact List.map_id l
theorem led_ok {a p : Addr} {starts : List Int} {ar : List (Int × Int)} {ys : List V} {H : Hp} {Q : VK} {E : XK} (hS : H a = some (.lst (starts.map V.int))) (hP : H p = some (.lst ys)) (it : ItemsAt H ys (ar.map prV)) (nd : starts.Nodup) (s0 : starts ≠ []) (lim : ∀ s ∈ starts, 0 ≤ s ∧ s < 3) (arl : ∀ q ∈ ar, 0 ≤ q.2 ∧ q.2 < 3)
    (h : ∀ F H' (fs : List Int), Same H H' → H F = none → H' F = some (.lst (fs.map V.int)) → (∀ x, x ∈ fs ↔ Rch (bwE (amM ar)) starts x) → Q (.ref F) H') : sp_law_led_from K [.ref a, .ref p] H Q E := by
  refine ⟨rfl, ?_⟩
  unfold t_law_led_from
  have am : ∀ q ∈ ar, (q.2, tx [], q.1) ∈ amM ar := fun q hq => List.mem_map.mpr ⟨q, hq, rfl⟩
  have sl : starts.length ≤ 3 := ints_below nd lim
  walk_at "sq"
  walk_at "st"
  refine ⟨a, _, rfl, .inl (.of hS), fun F hF => ?_⟩
  walk_at "st"
  walk_at "sq"
  walk_at "st"
  refine ⟨8, rfl, by decide, by decide, ?_⟩
  refine forR (n := 8) (fun k σ H2 => Same H H2 ∧ (∃ v3 v4 v5, σ = [some (.ref a), some (.ref p), some (.ref F), v3, v4, v5]) ∧ ∃ fs : List Int, H2 F = some (.lst (fs.map V.int)) ∧ fs.Nodup ∧ (∀ x ∈ fs, 0 ≤ x ∧ x < 3) ∧ (∀ x ∈ starts, x ∈ fs) ∧ (∀ x ∈ fs, Rch (bwE (amM ar)) starts x) ∧ Grew (amM ar) starts k (fdOf fs))
    ⟨Same.new hF, ⟨none, none, none, rfl⟩, starts, upd_same, nd, lim, fun x hx => hx, fun x hx => .s hx, .inr (by rw [dom_fdOf]; exact List.length_pos_iff.mpr s0)⟩ ?_ ?_
  · rintro k σ H2 hk ⟨s2, ⟨v3, v4, v5, rfl⟩, fs, eF, nf, lf, sf, rf, gr⟩
    walk_at "st"
    refine ⟨p, rfl, ⟨_, .of (s2 _ _ hP)⟩, ?_⟩
    refine for_list (K := K) (a := p) (xs := ys) (fun i σ H3 => Same H H3 ∧ (∃ v4 v5, σ = [some (.ref a), some (.ref p), some (.ref F), some (.int k), v4, v5]) ∧ ∃ gs : List Int, H3 F = some (.lst (gs.map V.int)) ∧ gs.Nodup ∧ (∀ x ∈ gs, 0 ≤ x ∧ x < 3) ∧ (∀ x ∈ fs, x ∈ gs) ∧ (∀ x ∈ gs, Rch (bwE (amM ar)) starts x) ∧ ∀ q ∈ ar.take i, q.1 ∈ fs → q.2 ∈ gs)
      ⟨s2, ⟨_, _, rfl⟩, fs, eF, nf, lf, fun x hx => hx, rf, fun q hq => (nomatch hq)⟩ (fun i σ H3 _ q => .of (q.1 _ _ hP)) ?_ ?_
    · rintro i x σ H3 hi ⟨s3, ⟨v4', v5', rfl⟩, gs, eF3, ng, lg, sg, rg, dg⟩
      have il : i < ar.length := by
        have := (List.getElem?_eq_some_iff.mp hi).1
        have := it.l
        rw [List.length_map] at this
        omega
      obtain ⟨b, rfl, eb⟩ := it.g i x (prV ar[i]) hi (by rw [List.getElem?_map, List.getElem?_eq_getElem il]; rfl)
      have eb3 := s3 _ _ eb
      have etk : ar.take (i + 1) = ar.take i ++ [ar[i]] := List.take_succ_eq_append_getElem il
      have hm : ar[i] ∈ ar := List.getElem_mem il
      generalize ar[i] = q at eb eb3 etk hm
      have keep : (q.1 ∈ fs → q.2 ∈ gs) → ∀ r ∈ ar.take (i + 1), r.1 ∈ fs → r.2 ∈ gs := fun hq r hr e => by
        rw [etk] at hr
        rcases List.mem_append.mp hr with z | z
        · exact dg r z e
        · rw [List.mem_singleton.mp z] at e ⊢
          exact hq e
      refine rd_gtup eb3 rfl ?_
      walk_at "st"
      refine inA_ints (.of eF3) ?_
      walk_at "st"
      by_cases c1 : q.1 ∈ gs
      · refine rd_iteB (decide_eq_true c1) ?_
        walk_at "st"
        refine notInA_ints (.of eF3) ?_
        walk_at "st"
        by_cases c2 : q.2 ∈ gs
        · refine rd_iteC (by rw [decide_eq_true c2]; rfl) ?_
          walk_at "st"
          exact ⟨s3, ⟨_, _, rfl⟩, gs, eF3, ng, lg, sg, rg, keep fun _ => c2⟩
        · refine rd_iteB (by rw [decide_eq_false c2]; rfl) ?_
          walk_at "st"
          refine ⟨tyL eF3, ?_⟩
          walk_at "st"
          refine append_go eF3 (by rw [List.length_map]; have := ints_below ng lg; omega) ?_
          walk_at "st"
          refine ⟨fun b o e => ?_, ⟨_, _, rfl⟩, gs ++ [q.2], by rw [upd_same, mapI_app], ?_, fun x hx => ?_, fun x hx => List.mem_append_left _ (sg x hx), fun x hx => ?_, fun r hr e => ?_⟩
          · rw [upd_ne (ne_of_none e hF)]
            exact s3 _ _ e
          · exact List.nodup_append.mpr ⟨ng, by simp, fun u hu w hw e => c2 (by rw [List.mem_singleton.mp hw] at e; exact e ▸ hu)⟩
          · rcases List.mem_append.mp hx with z | z
            · exact lg x z
            · rw [List.mem_singleton.mp z]; exact arl q hm
          · rcases List.mem_append.mp hx with z | z
            · exact rg x z
            · rw [List.mem_singleton.mp z]
              exact .e (rg _ c1) (mem_bwE.mpr ⟨_, am q hm, rfl, rfl⟩)
          · rw [etk] at hr
            rcases List.mem_append.mp hr with z | z
            · exact List.mem_append_left _ (dg r z e)
            · rw [List.mem_singleton.mp z]
              exact List.mem_append_right _ (by simp)
      · refine rd_iteC (decide_eq_false c1) ?_
        walk_at "st"
        exact ⟨s3, ⟨_, _, rfl⟩, gs, eF3, ng, lg, sg, rg, keep fun e => absurd (sg _ e) c1⟩
    · rintro σ H3 ⟨s3, ⟨v4', v5', rfl⟩, gs, eF3, ng, lg, sg, rg, dg⟩
      have yl : ys.length = ar.length := by have := it.l; rw [List.length_map] at this; exact this
      rw [yl, List.take_length] at dg
      refine ⟨s3, ⟨_, _, _, rfl⟩, gs, eF3, ng, lg, fun x hx => sg x (sf x hx), rg, gr.step (by rw [dom_fdOf]; exact nf) (by rw [dom_fdOf]; exact ng) (by rw [dom_fdOf, dom_fdOf]; exact sg) (by rw [dom_fdOf]; exact sf) ?_⟩
      rw [dom_fdOf, dom_fdOf]
      intro m hm e
      obtain ⟨q, hq, rfl⟩ := List.mem_map.mp hm
      exact dg q hq e
  · rintro σ H2 ⟨s2, ⟨v3, v4, v5, rfl⟩, fs, eF, nf, lf, sf, rf, gr⟩
    walk_at "st"
    refine h F H2 fs s2 hF eF fun x => ⟨rf x, fun r => ?_⟩
    have gr : Grew (amM ar) starts 8 (fdOf fs) := gr
    rcases gr with ⟨C, c1, c2, c3⟩ | q
    · rw [dom_fdOf] at c2
      refine c2 _ ?_
      induction r with
      | s hx => exact c1 _ hx
      | e _ hy ih =>
        obtain ⟨m, hm, e1, e2⟩ := mem_bwE.mp hy
        rw [← e2]
        exact c3 m hm (e1 ▸ ih)
    · rw [dom_fdOf] at q
      have := ints_below nf lf
      omega
/-! the lots that the law makes -/
structure LotOk (n : Int) (last : List Int) (ms : List Mv) : Prop where
  g : GoodLot n last ms
  n8 : n ≤ 8
  m9 : ms.length ≤ 9
  l9 : last.length ≤ 9
  us : ∀ i, 0 ≤ i → i < n → Rch (fwE ms) [0] i ∧ Rch (bwE ms) last i
  up : ms.Pairwise fun a b => ltMv a b = true
  ls : last.Pairwise (· < ·)
/-- the keys rise -/
def ltK (a b : Mv) : Prop := a.1 < b.1 ∨ (a.1 = b.1 ∧ a.2.1.cps.toList < b.2.1.cps.toList)
theorem ltK_mv {a b : Mv} (h : ltK a b) : ltMv a b = true := by
  unfold ltMv
  rcases h with h | ⟨e, h⟩
  · simp [h]
  · rw [decide_eq_true e, decide_eq_true h]
    simp
theorem det_of {ms : List Mv} (h : ms.Pairwise ltK) : Det ms := fun m hm m' hm' e => by
  have e1 : m.1 = m'.1 := (congrArg Prod.fst e : (mvKey m).1 = (mvKey m').1)
  have e2 : m.2.1 = m'.2.1 := (congrArg Prod.snd e : (mvKey m).2 = (mvKey m').2)
  have no : ∀ a b : Mv, a.1 = b.1 → a.2.1 = b.2.1 → ¬ ltK a b := fun a b q1 q2 h => by
    rcases h with h | ⟨_, h⟩
    · omega
    · rw [q2] at h
      exact List.lt_irrefl _ h
  obtain ⟨i, hi, ei⟩ := List.mem_iff_getElem.mp hm
  obtain ⟨j, hj, ej⟩ := List.mem_iff_getElem.mp hm'
  rcases Nat.lt_trichotomy i j with q | q | q
  · exact absurd (ei ▸ ej ▸ List.pairwise_iff_getElem.mp h i j hi hj q) (no _ _ e1 e2)
  · subst q
    rw [← ei, ← ej]
  · exact absurd (ei ▸ ej ▸ List.pairwise_iff_getElem.mp h j i hj hi q) (no _ _ e1.symm e2.symm)
/-- the signs in order -/
def sgD (c : Nat) : PyData := .str (tx [c])
def sortC (sg : List Nat) : List Nat := sg.mergeSort (PySem.W.dataLe false sgD)
theorem sortC_perm (sg : List Nat) : (sortC sg).Perm sg := List.mergeSort_perm _ _
theorem sortC_up {sg : List Nat} (nd : sg.Nodup) : (sortC sg).Pairwise fun a b => ([a] : List Nat) < [b] := by
  have tot : PySem.W.TotalLe (PySem.W.dataLe false sgD) := PySem.W.sortLe_total _ _ _
  have pw := PySem.W.sort_pairwise tot sg
  have both := List.pairwise_and_iff.mpr ⟨pw, (sortC_perm sg).nodup_iff.mpr nd⟩
  refine both.imp fun {a b} q => ?_
  have q1 : PySem.W.dataLe false sgD a b = true := q.1
  have e2 : PySem.W.dataLe false sgD a b = !PySem.W.dataLt (.str (tx [b])) (.str (tx [a])) := rfl
  rw [e2, PySem.W.dataLt_str, tx_toList, tx_toList, Bool.not_eq_true', decide_eq_false_iff_not] at q1
  rcases lst_tri q1 with z | z
  · exact z
  · exact absurd (List.cons.inj z).1 q.2
theorem sorted_sg {D : Addr} {sg : List Nat} {H : Hp} {Q : VK} (hD : H D = some (.lst (sg.map fun c => V.str (tx [c]))))
    (h : ∀ p, H p = none → Q (.ref p) (upd H p (.lst ((sortC sg).map fun c => V.str (tx [c]))))) : rSortedD K [.ref D] H Q := by
  refine ⟨D, sg.map fun c => (V.str (tx [c]), sgD c), rfl, .of ?_, fun z hz => ?_, fun d hd d' hd' => ?_, .inr fun d hd => ?_, fun z hz => ?_, fun p hp => ?_⟩
  · rw [hD, List.map_map]; rfl
  · obtain ⟨x, hx, rfl⟩ := List.mem_map.mp hz
    exact .str _
  · rw [List.map_map] at hd hd'
    obtain ⟨x, _, rfl⟩ := List.mem_map.mp hd
    obtain ⟨y, _, rfl⟩ := List.mem_map.mp hd'
    rfl
  · rw [List.map_map] at hd
    obtain ⟨x, _, rfl⟩ := List.mem_map.mp hd
    exact ⟨(fun z => nomatch z), fun _ z => nomatch z⟩
  · obtain ⟨x, hx, rfl⟩ := List.mem_map.mp hz
    exact Nat.zero_le _
  · have e1 : srtD (sg.map fun c => ((V.str (tx [c]) : V), sgD c)) = (sortC sg).map fun c => ((V.str (tx [c]) : V), sgD c) :=
      (PySem.W.sort_maps (fun c : Nat => ((V.str (tx [c]) : V), sgD c)) (fun _ _ _ _ => rfl)).symm
    rw [e1, List.map_map]
    exact h p hp
theorem lotOk0 {sg : List Nat} (nd : sg.Nodup) (hl : ∀ c ∈ sg, c ∈ letters) (h9 : sg.length ≤ 9) : LotOk 1 [0] (evM (sortC sg)) where
  g := good_ev fun c hc => hl c ((sortC_perm sg).mem_iff.mp hc)
  n8 := by decide
  m9 := by unfold evM; rw [List.length_map, (sortC_perm sg).length_eq]; exact h9
  l9 := by decide
  us := fun i i0 i1 => by
    have : i = 0 := by omega
    subst this
    exact ⟨.s (by simp), .s (by simp)⟩
  up := by
    unfold evM
    rw [List.pairwise_map]
    exact (sortC_up nd).imp fun {a b} q => ltK_mv (a := ((0 : Int), tx [a], (0 : Int))) (b := ((0 : Int), tx [b], (0 : Int))) (.inr ⟨rfl, by rw [tx_toList, tx_toList]; exact q⟩)
  ls := by simp
def chM (t : List Nat) : List Mv := (List.range t.length).map fun (k : Nat) => ((k : Int), tx [t[k]?.getD 0], ((k : Int) + 1))
theorem mem_chM {t : List Nat} {m : Mv} : m ∈ chM t ↔ ∃ k, k < t.length ∧ m = ((k : Int), tx [t[k]?.getD 0], ((k : Int) + 1)) := by
  unfold chM
  rw [List.mem_map]
  exact ⟨fun ⟨k, a, b⟩ => ⟨k, List.mem_range.mp a, b.symm⟩, fun ⟨k, a, b⟩ => ⟨k, List.mem_range.mpr a, b.symm⟩⟩
theorem lotOk1 {t : List Nat} (hl : ∀ c ∈ t, c ∈ letters) (h6 : t.length ≤ 6) : LotOk ((t.length : Int) + 1) [(t.length : Int)] (chM t) where
  g := {
    n1 := by omega
    n2 := by omega
    la := fun s hs => by rw [List.mem_singleton.mp hs]; omega
    mv := fun m hm => by
      obtain ⟨k, hk, rfl⟩ := mem_chM.mp hm
      refine ⟨⟨?_, ?_⟩, ⟨?_, ?_⟩, t[k]?.getD 0, ?_, rfl⟩
      · show (0 : Int) ≤ k; omega
      · show (k : Int) < _; omega
      · show (0 : Int) ≤ (k : Int) + 1; omega
      · show (k : Int) + 1 < _; omega
      · rw [List.getElem?_eq_getElem hk]
        exact hl _ (List.getElem_mem hk)
    de := fun m hm m' hm' e => by
      obtain ⟨k, hk, rfl⟩ := mem_chM.mp hm
      obtain ⟨j, hj, rfl⟩ := mem_chM.mp hm'
      have : (k : Int) = j := (congrArg Prod.fst e : (mvKey ((k : Int), tx [t[k]?.getD 0], ((k : Int) + 1))).1 = (mvKey ((j : Int), tx [t[j]?.getD 0], ((j : Int) + 1))).1)
      show (k : Int) + 1 = (j : Int) + 1
      omega }
  n8 := by omega
  m9 := by unfold chM; rw [List.length_map, List.length_range]; omega
  l9 := by simp
  us := fun i i0 i1 => by
    have fw : ∀ k : Nat, k ≤ t.length → Rch (fwE (chM t)) [0] (k : Int) := fun k => by
      induction k with
      | zero => exact fun _ => .s (by simp)
      | succ k ih => exact fun hk => .e (ih (by omega)) (mem_fwE.mpr ⟨_, mem_chM.mpr ⟨k, by omega, rfl⟩, rfl, rfl⟩)
    have bw : ∀ j k : Nat, j + k = t.length → Rch (bwE (chM t)) [(t.length : Int)] (k : Int) := fun j => by
      induction j with
      | zero => exact fun k hk => .s (by simp; omega)
      | succ j ih => exact fun k hk => .e (ih (k + 1) (by omega)) (mem_bwE.mpr ⟨_, mem_chM.mpr ⟨k, by omega, rfl⟩, rfl, rfl⟩)
    have e : i = ((i.toNat : Nat) : Int) := by omega
    rw [e]
    exact ⟨fw _ (by omega), bw (t.length - i.toNat) _ (by omega)⟩
  up := by
    unfold chM
    rw [List.pairwise_map]
    exact List.pairwise_lt_range.imp fun {a b : Nat} (q : a < b) => ltK_mv (a := ((a : Int), tx [t[a]?.getD 0], ((a : Int) + 1))) (b := ((b : Int), tx [t[b]?.getD 0], ((b : Int) + 1))) (.inl (by show (a : Int) < b; omega))
  ls := by simp
/-! renumbered by what is kept -/
def kIx (kept : List Int) (x : Int) : Int := (kept.idxOf x : Nat)
def keptM (kept : List Int) (ms : List Mv) : List Mv := (ms.filter fun m => decide (m.1 ∈ kept) && decide (m.2.2 ∈ kept)).map fun m => (kIx kept m.1, m.2.1, kIx kept m.2.2)
def keptL (kept last : List Int) : List Int := (last.filter fun s => decide (s ∈ kept)).map (kIx kept)
theorem kIx_lt {kept : List Int} {x : Int} (h : x ∈ kept) : 0 ≤ kIx kept x ∧ kIx kept x < kept.length := by
  have := List.idxOf_lt_length_of_mem h
  unfold kIx
  omega
theorem kIx_mono {kept : List Int} (up : kept.Pairwise (· < ·)) {x y : Int} (hx : x ∈ kept) (hy : y ∈ kept) (h : x < y) : kIx kept x < kIx kept y := by
  have l1 := List.idxOf_lt_length_of_mem hx
  have l2 := List.idxOf_lt_length_of_mem hy
  have e1 := List.getElem_idxOf l1
  have e2 := List.getElem_idxOf l2
  rcases Nat.lt_trichotomy (kept.idxOf x) (kept.idxOf y) with q | q | q
  · unfold kIx; omega
  · exfalso
    have e3 : kept[kept.idxOf x] = kept[kept.idxOf y] := by congr 1
    rw [e1, e2] at e3
    omega
  · exfalso
    have := List.pairwise_iff_getElem.mp up _ _ l2 l1 q
    rw [e1, e2] at this
    omega
theorem kIx_at {kept : List Int} (up : kept.Pairwise (· < ·)) {i : Nat} (hi : i < kept.length) : kIx kept kept[i] = i := by
  have nd : kept.Nodup := up.imp fun {a b} h e => by omega
  unfold kIx
  rw [nd.idxOf_getElem i hi]
theorem mem_keptM {kept : List Int} {ms : List Mv} {m : Mv} : m ∈ keptM kept ms ↔ ∃ q ∈ ms, q.1 ∈ kept ∧ q.2.2 ∈ kept ∧ m = (kIx kept q.1, q.2.1, kIx kept q.2.2) := by
  unfold keptM
  rw [List.mem_map]
  constructor
  · rintro ⟨q, hq, rfl⟩
    obtain ⟨a, b⟩ := List.mem_filter.mp hq
    rw [Bool.and_eq_true, decide_eq_true_eq, decide_eq_true_eq] at b
    exact ⟨q, a, b.1, b.2, rfl⟩
  · rintro ⟨q, a, b, c, rfl⟩
    exact ⟨q, List.mem_filter.mpr ⟨a, by rw [Bool.and_eq_true, decide_eq_true_eq, decide_eq_true_eq]; exact ⟨b, c⟩⟩, rfl⟩
theorem Rch.trans_ {f : Int → List Int} {S : List Int} {x y : Int} (h : Rch f S x) (g : Rch f [x] y) : Rch f S y := by
  induction g with
  | s hx => rw [List.mem_singleton.mp hx]; exact h
  | e _ hy ih => exact .e ih hy
theorem turn_way' {ms : List Mv} {x y : Int} (h : Rch (fwE ms) [x] y) : Rch (bwE ms) [y] x := by
  induction h with
  | s hx => rw [List.mem_singleton.mp hx]; exact .s (by simp)
  | @e a b _ hy ih =>
    obtain ⟨m, hm, e1, e2⟩ := mem_fwE.mp hy
    have st : Rch (bwE ms) [b] a := .e (.s (by simp)) (mem_bwE.mpr ⟨m, hm, e2, e1⟩)
    exact st.trans_ ih
theorem lotOk2 {n : Int} {last kept : List Int} {ms : List Mv} (h1 : 1 ≤ n) (h3 : n ≤ 3) (mv : ∀ m ∈ ms, MvOk n m) (up : ms.Pairwise ltK) (m9 : ms.length ≤ 9) (la : ∀ s ∈ last, 0 ≤ s ∧ s < n) (ls : last.Pairwise (· < ·)) (meet : ∃ s ∈ last, Rch (fwE ms) [0] s)
    (ku : kept.Pairwise (· < ·)) (km : ∀ x, x ∈ kept ↔ (0 ≤ x ∧ x < n) ∧ Rch (fwE ms) [0] x ∧ Rch (bwE ms) last x) : LotOk kept.length (keptL kept last) (keptM kept ms) := by
  have knd : kept.Nodup := ku.imp fun {a b} h e => by omega
  have kl : kept.length ≤ 3 := by
    have := ints_below knd fun s hs => ((km s).mp hs).1
    omega
  obtain ⟨s0, hs0, r0⟩ := meet
  have b0 : Rch (bwE ms) last 0 := by
    have := turn_way' r0
    exact (Rch.s hs0 : Rch (bwE ms) last s0).trans_ this
  have k0 : (0 : Int) ∈ kept := (km 0).mpr ⟨⟨Int.le_refl 0, by omega⟩, .s (by simp), b0⟩
  have z0 : kIx kept 0 = 0 := by
    have l0 : 0 < kept.length := List.length_pos_of_mem k0
    have e := kIx_at ku (i := 0) l0
    by_cases q : kept[0] = 0
    · rw [q] at e; exact e
    · have g0 := ((km kept[0]).mp (List.getElem_mem l0)).1
      have := kIx_mono ku k0 (List.getElem_mem l0) (by omega)
      have := kIx_lt k0
      omega
  have fw : ∀ x, Rch (fwE ms) [0] x → Rch (bwE ms) last x → Rch (fwE (keptM kept ms)) [0] (kIx kept x) := fun x r => by
    induction r with
    | s hx => rw [List.mem_singleton.mp hx, z0]; exact fun _ => .s (by simp)
    | @e a b ra hy ih =>
      intro bb
      obtain ⟨m, hm, e1, e2⟩ := mem_fwE.mp hy
      have ba : Rch (bwE ms) last a := .e bb (mem_bwE.mpr ⟨m, hm, e2, e1⟩)
      have ok := mv m hm
      have ka : a ∈ kept := (km a).mpr ⟨e1 ▸ ok.a, ra, ba⟩
      have kb : b ∈ kept := (km b).mpr ⟨e2 ▸ ok.b, .e ra hy, bb⟩
      exact .e (ih ba) (mem_fwE.mpr ⟨_, mem_keptM.mpr ⟨m, hm, e1 ▸ ka, e2 ▸ kb, rfl⟩, by rw [e1], by rw [e2]⟩)
  have bw : ∀ x, Rch (bwE ms) last x → Rch (fwE ms) [0] x → (0 ≤ x ∧ x < n) → Rch (bwE (keptM kept ms)) (keptL kept last) (kIx kept x) := fun x r => by
    induction r with
    | @s x hx =>
      intro f lim
      have kx : x ∈ kept := (km x).mpr ⟨lim, f, .s hx⟩
      exact .s (List.mem_map.mpr ⟨x, List.mem_filter.mpr ⟨hx, decide_eq_true kx⟩, rfl⟩)
    | @e a b ra hy ih =>
      intro fb lim
      obtain ⟨m, hm, e1, e2⟩ := mem_bwE.mp hy
      have ok := mv m hm
      have fa : Rch (fwE ms) [0] a := .e fb (mem_fwE.mpr ⟨m, hm, e2, e1⟩)
      have ka : a ∈ kept := (km a).mpr ⟨e1 ▸ ok.b, fa, ra⟩
      have kb : b ∈ kept := (km b).mpr ⟨lim, fb, .e ra hy⟩
      exact .e (ih fa (e1 ▸ ok.b)) (mem_bwE.mpr ⟨_, mem_keptM.mpr ⟨m, hm, e2 ▸ kb, e1 ▸ ka, rfl⟩, by rw [e1], by rw [e2]⟩)
  have upK : (keptM kept ms).Pairwise ltK := by
    unfold keptM
    rw [List.pairwise_map]
    refine List.Pairwise.imp_of_mem (fun {a b} ha hb q => ?_) (up.filter _)
    have a1 := (List.mem_filter.mp ha).2
    have b1 := (List.mem_filter.mp hb).2
    rw [Bool.and_eq_true, decide_eq_true_eq, decide_eq_true_eq] at a1 b1
    rcases q with q | ⟨e, q⟩
    · exact .inl (kIx_mono ku a1.1 b1.1 q)
    · exact .inr ⟨by show kIx kept a.1 = kIx kept b.1; rw [e], q⟩
  refine ⟨⟨?_, ?_, fun s hs => ?_, fun m hm => ?_, det_of upK⟩, ?_, ?_, ?_, fun i i0 i1 => ?_, upK.imp ltK_mv, ?_⟩
  · have := List.length_pos_of_mem k0; omega
  · omega
  · obtain ⟨x, hx, rfl⟩ := List.mem_map.mp hs
    exact kIx_lt (of_decide_eq_true (List.mem_filter.mp hx).2)
  · obtain ⟨q, hq, k1, k2, rfl⟩ := mem_keptM.mp hm
    exact ⟨kIx_lt k1, kIx_lt k2, (mv q hq).s⟩
  · omega
  · unfold keptM
    rw [List.length_map]
    exact Nat.le_trans (List.length_filter_le _ _) m9
  · unfold keptL
    rw [List.length_map]
    have h1 := List.length_filter_le (fun s => decide (s ∈ kept)) last
    have := ints_below (ls.imp fun {a b} h e => by omega : last.Nodup) la
    omega
  · have hi : i.toNat < kept.length := by omega
    have e := kIx_at ku hi
    have m := (km kept[i.toNat]).mp (List.getElem_mem hi)
    have e2 : kIx kept kept[i.toNat] = i := by omega
    rw [← e2]
    exact ⟨fw _ m.2.1 m.2.2, bw _ m.2.2 m.2.1 m.1⟩
  · unfold keptL
    rw [List.pairwise_map]
    exact List.Pairwise.imp_of_mem (fun {a b} ha hb q => kIx_mono ku (of_decide_eq_true (List.mem_filter.mp ha).2) (of_decide_eq_true (List.mem_filter.mp hb).2) q) (ls.filter _)
def t_l2 (K : Frg) (E : XK) : TS :=
  (tSeq (tAsg (tCallSD (sp_law_led_from K) [] (WE (W0 E)) (tCons (tVar 6) (tCons (tLc (iList K (tVar 4)) (gName 14) tYes (tTup (tCons (tOp (rIx K) (tVar 14) (tC (.int 2))) (tCons (tOp (rIx K) (tVar 14) (tC (.int 0))) tNil))) [14]) tNil))) (gName 8)) (tSeq (tAsg (tLc (iRng1 (tCons (tVar 3) tNil)) (gName 5) (tAnd (tTest (tOp (rInA K) (tVar 5) (tVar 7))) (tTest (tOp (rInA K) (tVar 5) (tVar 8)))) (tVar 5) [5]) (gName 9)) (tSeq (tAsg (tLc (iList K (tVar 4)) (gName 14) (tAnd (tTest (tOp (rInA K) (tOp (rIx K) (tVar 14) (tC (.int 0))) (tVar 9))) (tTest (tOp (rInA K) (tOp (rIx K) (tVar 14) (tC (.int 2))) (tVar 9)))) (tVar 14) [14]) (gName 10)) (tSeq (tAsg (tLc (iList K (tVar 10)) (gName 14) tYes (tTup (tCons (tBM K "list" (rIndex K) (tVar 9) (tCons (tOp (rIx K) (tVar 14) (tC (.int 0))) tNil)) (tCons (tOp (rIx K) (tVar 14) (tC (.int 1))) (tCons (tBM K "list" (rIndex K) (tVar 9) (tCons (tOp (rIx K) (tVar 14) (tC (.int 2))) tNil)) tNil)))) [14]) (gName 4)) (tRet (tTup (tCons (tCB (rLenA K) (tCons (tVar 9) tNil)) (tCons (tLc (iList K (tVar 6)) (gName 5) (tTest (tOp (rInA K) (tVar 5) (tVar 9))) (tBM K "list" (rIndex K) (tVar 9) (tCons (tVar 5) tNil)) [5]) (tCons (tVar 4) tNil)))))))))
/-! the end of _law_lot_of -/
theorem arF {ms : List Mv} {x y : Int} : y ∈ bwE (amM (ms.map fun m => (m.1, m.2.2))) x ↔ y ∈ fwE ms x := by
  rw [mem_bwE, mem_fwE]
  unfold amM
  constructor
  · rintro ⟨q, hq, e1, e2⟩
    rw [List.map_map] at hq
    obtain ⟨m, hm, rfl⟩ := List.mem_map.mp hq
    exact ⟨m, hm, e1, e2⟩
  · rintro ⟨m, hm, e1, e2⟩
    exact ⟨_, by rw [List.map_map]; exact List.mem_map.mpr ⟨m, hm, rfl⟩, e1, e2⟩
theorem arB {ms : List Mv} {x y : Int} : y ∈ bwE (amM (ms.map fun m => (m.2.2, m.1))) x ↔ y ∈ bwE ms x := by
  rw [mem_bwE, mem_bwE]
  unfold amM
  constructor
  · rintro ⟨q, hq, e1, e2⟩
    rw [List.map_map] at hq
    obtain ⟨m, hm, rfl⟩ := List.mem_map.mp hq
    exact ⟨m, hm, e1, e2⟩
  · rintro ⟨m, hm, e1, e2⟩
    exact ⟨(m.1, tx [], m.2.2), by rw [List.map_map]; exact List.mem_map.mpr ⟨m, hm, rfl⟩, e1, e2⟩
theorem rch_iff {f g : Int → List Int} {S : List Int} {x : Int} (h : ∀ a b, b ∈ f a ↔ b ∈ g a) : Rch f S x ↔ Rch g S x :=
  ⟨fun r => r.mono (fun a b => (h a b).mp) fun _ q => q, fun r => r.mono (fun a b => (h a b).mpr) fun _ q => q⟩
theorem fm_if {α β : Type} (l : List α) (p : α → Bool) (f : α → β) : (l.map fun a => if p a = true then some (f a) else none).filterMap id = (l.filter p).map f := by
  induction l with
  | nil => rfl
  | cons a r ih =>
    by_cases h : p a = true
    · rw [List.map_cons, if_pos h, List.filterMap_cons, List.filter_cons, if_pos h, ih]; rfl
    · rw [List.map_cons, if_neg h, List.filterMap_cons, List.filter_cons, if_neg h, ih]; rfl
theorem index_int {kept : List Int} (nd : kept.Nodup) {a : Addr} {x : Int} {H : Hp} {Q : VK} (ha : H a = some (.lst (kept.map V.int))) (hx : x ∈ kept) (h : Q (.int (kIx kept x)) H) : rIndex K (.ref a) [.int x] H Q := by
  have lt := List.idxOf_lt_length_of_mem hx
  have ev : ∀ p r : Int, eqV (.int p) (.int r) = decide (p = r) := fun p r => by
    show (p == r) = _
    by_cases e : p = r
    · subst e; simp
    · rw [beq_eq_false_iff_ne.mpr e, decide_eq_false e]
  refine ⟨a, _, _, kept.idxOf x, .int x, rfl, rfl, .of ha, rfl, flat_ints kept, ?_, by rw [ev]; simp, fun m z hm e => ?_, h⟩
  · rw [List.getElem?_map, List.getElem?_eq_getElem lt, List.getElem_idxOf lt]
    rfl
  · have lm : m < kept.length := by omega
    rw [List.getElem?_map, List.getElem?_eq_getElem lm] at e
    cases e
    rw [ev]
    refine decide_eq_false fun w => ?_
    have := nd.idxOf_getElem m lm
    rw [w] at this
    omega
def rangeI (n : Nat) : List Int := (List.range n).map fun (k : Nat) => (k : Int)
theorem mem_rangeI {n : Nat} {x : Int} : x ∈ rangeI n ↔ 0 ≤ x ∧ x < n := by
  unfold rangeI
  rw [List.mem_map]
  constructor
  · rintro ⟨k, hk, rfl⟩
    have := List.mem_range.mp hk
    omega
  · rintro ⟨a, b⟩
    exact ⟨x.toNat, List.mem_range.mpr (by omega), by omega⟩
theorem rangeI_up (n : Nat) : (rangeI n).Pairwise (· < ·) := by
  unfold rangeI
  rw [List.pairwise_map]
  exact List.pairwise_lt_range.imp fun {a b} h => by omega
theorem lot2_ok {d M L F1 : Addr} {us : List Addr} {ms : List Mv} {ls fs : List Int} {n : Int} {H : Hp} {Q : VK} {E : XK} {a1 a2 a5 a8 a9 a10 a11 a12 a13 a14 a15 : Option V} (hd : DrL H d) (eM : H M = some (.lst (us.map V.ref))) (hm : MvsAt H us ms) (eL : H L = some (.lst (ls.map V.int))) (eF : H F1 = some (.lst (fs.map V.int)))
    (h1 : 1 ≤ n) (h3 : n ≤ 3) (mo : ∀ m ∈ ms, MvOk n m) (up : ms.Pairwise ltK) (m9 : ms.length ≤ 9) (la : ∀ s ∈ ls, 0 ≤ s ∧ s < n) (lu : ls.Pairwise (· < ·)) (ff : ∀ x, x ∈ fs ↔ Rch (fwE ms) [0] x) (meet : ∃ s ∈ ls, Rch (fwE ms) [0] s)
    (h : ∀ pa La Ma us n last ms H', Keep d H H' → DrL H' d → PartsAt H' pa La Ma us n last ms → La ≠ d → Ma ≠ d → LotOk n last ms → Q (.ref pa) H') :
    t_l2 K E { nx := fun _ H' => Q .non H', rt := Q } [some (.ref d), a1, a2, some (.int n), some (.ref M), a5, some (.ref L), some (.ref F1), a8, a9, a10, a11, a12, a13, a14, a15] H := by
  unfold t_l2
  have ul : us.length = ms.length := hm.l
  have l0 : ls ≠ [] := fun e => by obtain ⟨s, hs, _⟩ := meet; rw [e] at hs; cases hs
  have lnd : ls.Nodup := lu.imp fun {a b} h e => by omega
  have l3 : ls.length ≤ 3 := by have := ints_below lnd la; omega
  have dn : ∀ {H2 : Hp} {b : Addr}, DrL H2 d → H2 b = none → b ≠ d := fun dd hb e => by
    obtain ⟨_, _, q⟩ := dd
    rw [e, q] at hb
    cases hb
  walk_at "sq"
  walk_at "st"
  refine ⟨M, rfl, ⟨_, .of eM⟩, fun D hD => ?_⟩
  refine lcA (walk_list (K := K) (a := M) (xs := us.map V.ref)) (ms.map fun m => some (prV (m.2.2, m.1))) hD (fun H2 s2 => .of (s2 _ _ eM)) (by rw [List.length_map, List.length_map, ul]) (by rw [List.length_map]; omega) ?_ ?_
  · rintro i x ob H2 H3 C hi s2 ⟨rfl, hx⟩ hb hC
    rw [List.length_map] at hi
    have hi2 : i < ms.length := by omega
    rw [List.getElem?_map, List.getElem?_eq_getElem hi] at hx
    rw [List.getElem?_map, List.getElem?_eq_getElem hi2] at hb
    cases hx
    cases hb
    have eu := s2 _ _ (hm.g i _ _ (List.getElem?_eq_getElem hi) (List.getElem?_eq_getElem hi2))
    walk_at "st"
    refine ⟨rfl, ?_⟩
    walk_at "st"
    refine ixA_tup (.of eu) ix2 ?_
    walk_at "st"
    refine ixA_tup (.of eu) ix0 ?_
    walk_at "st"
    intro tp htp
    exact hC _ _ (Same.new htp) ⟨_, rfl, _, rfl, upd_same⟩
  rintro H2 ys s2 eD it
  have e1 : (ms.map fun m => some (prV (m.2.2, m.1))).filterMap id = (ms.map fun m => (m.2.2, m.1)).map prV := by rw [fm_some, List.map_map]; rfl
  rw [e1] at it
  walk_at "st"
  refine led_ok (s2 _ _ eL) eD it lnd l0 (fun s hs => by have := la s hs; omega) (fun q hq => by
    obtain ⟨m, hm, rfl⟩ := List.mem_map.mp hq
    have := (mo m hm).a
    show 0 ≤ m.1 ∧ m.1 < 3
    omega) fun F2 H3 gs s3 hF2 eF2 gf => ?_
  have gg : ∀ x, x ∈ gs ↔ Rch (bwE ms) ls x := fun x => (gf x).trans (rch_iff fun a b => arB)
  have s23 := s2.trans s3
  have eF3 := s23 _ _ eF
  walk_at "st"
  walk_at "sq"
  walk_at "st"
  refine ⟨n, rfl, by omega, by omega, fun KA hKA => ?_⟩
  let p : Int → Bool := fun x => decide (x ∈ fs) && decide (x ∈ gs)
  have hpd : ∀ x, p x = (decide (x ∈ fs) && decide (x ∈ gs)) := fun _ => rfl
  refine lcA (walk_range (lo := 0) (n := n.toNat)) ((rangeI n.toNat).map fun x => if p x = true then some (.inl (V.int x)) else none) hKA (fun _ _ => trivial) (by unfold rangeI; simp) (by omega) ?_ ?_
  · rintro i x ob H4 H5 C hi s4 ⟨rfl, rfl⟩ hb hC
    have hb : ob = if p (i : Int) = true then some (.inl (V.int (i : Int))) else none := by
      unfold rangeI at hb
      rw [List.getElem?_map, List.getElem?_map, List.getElem?_range hi] at hb
      exact (Option.some.inj hb).symm
    rw [hpd] at hb
    show gName 5 (V.int (0 + (i : Int))) _ _ _
    rw [Int.zero_add]
    walk_at "st"
    refine ⟨rfl, ?_⟩
    walk_at "st"
    refine inA_ints (.of (s4 _ _ eF3)) ?_
    walk_at "st"
    by_cases c1 : (i : Int) ∈ fs
    · refine rd_iteB (decide_eq_true c1) ?_
      rw [decide_eq_true c1, Bool.true_and] at hb
      walk_at "st"
      refine inA_ints (.of (s4 _ _ eF2)) ?_
      walk_at "st"
      by_cases c2 : (i : Int) ∈ gs
      · rw [if_pos (decide_eq_true c2)] at hb
        subst hb
        refine rd_iteB (decide_eq_true c2) ?_
        walk_at "st"
        exact hC _ _ (Same.refl _) ⟨_, rfl, rfl⟩
      · rw [decide_eq_false c2] at hb
        subst hb
        refine rd_iteC (decide_eq_false c2) ?_
        exact hC _ none (Same.refl _) rfl
    · refine rd_iteC (decide_eq_false c1) ?_
      rw [decide_eq_false c1] at hb
      subst hb
      walk_at "st"
      exact hC _ none (Same.refl _) rfl
  rintro H4 ks s4 eKA it2
  obtain ⟨kept, hkept⟩ : ∃ kept, kept = (rangeI n.toNat).filter p := ⟨_, rfl⟩
  have ey : ks = kept.map V.int := by
    have e : ((rangeI n.toNat).map fun x => if p x = true then some (Sum.inl (V.int x) : V ⊕ List V) else none).filterMap id = (kept.map V.int).map Sum.inl := by
      rw [fm_if, hkept, List.map_map]; rfl
    rw [e] at it2
    exact items_v it2
  subst ey
  have ku : kept.Pairwise (· < ·) := by rw [hkept]; exact (rangeI_up _).filter _
  have knd : kept.Nodup := ku.imp fun {a b} h e => by omega
  have km : ∀ x, x ∈ kept ↔ (0 ≤ x ∧ x < n) ∧ Rch (fwE ms) [0] x ∧ Rch (bwE ms) ls x := fun x => by
    rw [hkept, List.mem_filter, mem_rangeI, hpd, Bool.and_eq_true, decide_eq_true_eq, decide_eq_true_eq, ff, gg]
    constructor
    · rintro ⟨⟨a, b⟩, c⟩
      exact ⟨⟨a, by omega⟩, c⟩
    · rintro ⟨⟨a, b⟩, c⟩
      exact ⟨⟨a, by omega⟩, c⟩
  have ok := lotOk2 h1 h3 mo up m9 la lu meet ku km
  have k3 : kept.length ≤ 3 := by have := ints_below knd fun s hs => ((km s).mp hs).1; omega
  have s24 := s23.trans s4
  walk_at "st"
  walk_at "sq"
  walk_at "st"
  have eM4 := s24 _ _ eM
  have hm4 := hm.keep (H' := H4) fun u xs e => s24 _ _ e
  refine ⟨M, rfl, ⟨_, .of eM4⟩, fun I1 hI1 => ?_⟩
  let p2 : Mv → Bool := fun m => decide (m.1 ∈ kept) && decide (m.2.2 ∈ kept)
  have hp2 : ∀ m, p2 m = (decide (m.1 ∈ kept) && decide (m.2.2 ∈ kept)) := fun _ => rfl
  obtain ⟨os, e5, hm5⟩ := filt_mvs p2 hm4
  have zl : ((us.zip ms).map fun q => if p2 q.2 = true then some (Sum.inl (V.ref q.1) : V ⊕ List V) else none).length = (us.map V.ref).length := by
    rw [List.length_map, List.length_map, List.length_zip, ul]; omega
  refine lcA (walk_list (K := K) (a := M) (xs := us.map V.ref)) ((us.zip ms).map fun q => if p2 q.2 = true then some (Sum.inl (V.ref q.1) : V ⊕ List V) else none) hI1 (fun H6 s6 => .of (s6 _ _ eM4)) zl (by rw [List.length_map]; omega) ?_ ?_
  · rintro i x ob H6 H7 C hi s6 ⟨rfl, hx⟩ hb hC
    rw [List.length_map] at hi
    have hi2 : i < ms.length := by omega
    rw [List.getElem?_map, List.getElem?_eq_getElem hi] at hx
    have hzi : (us.zip ms)[i]? = some (us[i], ms[i]) := List.getElem?_zip_eq_some.mpr ⟨List.getElem?_eq_getElem hi, List.getElem?_eq_getElem hi2⟩
    rw [List.getElem?_map, hzi] at hb
    cases hx
    have hb : ob = if p2 ms[i] = true then some (Sum.inl (V.ref us[i]) : V ⊕ List V) else none := (Option.some.inj hb).symm
    have eu := s6 _ _ (hm4.g i _ _ (List.getElem?_eq_getElem hi) (List.getElem?_eq_getElem hi2))
    rw [hp2] at hb
    generalize ms[i] = m at hb eu
    generalize us[i] = u at hb eu
    walk_at "st"
    refine ⟨rfl, ?_⟩
    walk_at "st"
    refine ixA_tup (.of eu) ix0 ?_
    walk_at "st"
    refine inA_ints (.of (s6 _ _ eKA)) ?_
    walk_at "st"
    by_cases c1 : m.1 ∈ kept
    · refine rd_iteB (decide_eq_true c1) ?_
      rw [decide_eq_true c1, Bool.true_and] at hb
      walk_at "st"
      refine ixA_tup (.of eu) ix2 ?_
      walk_at "st"
      refine inA_ints (.of (s6 _ _ eKA)) ?_
      walk_at "st"
      by_cases c2 : m.2.2 ∈ kept
      · rw [if_pos (decide_eq_true c2)] at hb
        subst hb
        refine rd_iteB (decide_eq_true c2) ?_
        walk_at "st"
        exact hC _ _ (Same.refl _) ⟨_, rfl, rfl⟩
      · rw [decide_eq_false c2] at hb
        subst hb
        refine rd_iteC (decide_eq_false c2) ?_
        exact hC _ none (Same.refl _) rfl
    · refine rd_iteC (decide_eq_false c1) ?_
      rw [decide_eq_false c1] at hb
      subst hb
      walk_at "st"
      exact hC _ none (Same.refl _) rfl
  rintro H6 ys6 s6 eI it6
  rw [e5] at it6
  have ey6 := items_v it6
  subst ey6
  have hm6 := hm5.keep (H' := H6) fun u xs e => s6 _ _ e
  have eKA6 := s6 _ _ eKA
  have s26 := s24.trans s6
  have ol : os.length = (ms.filter p2).length := hm5.l
  have fl := List.length_filter_le p2 ms
  have kin : ∀ m ∈ ms.filter p2, m.1 ∈ kept ∧ m.2.2 ∈ kept := fun m q => by
    have := (List.mem_filter.mp q).2
    rw [hp2, Bool.and_eq_true, decide_eq_true_eq, decide_eq_true_eq] at this
    exact this
  walk_at "st"
  walk_at "sq"
  walk_at "st"
  refine ⟨I1, rfl, ⟨_, .of eI⟩, fun M2 hM2 => ?_⟩
  refine lcA (walk_list (K := K) (a := I1) (xs := os.map V.ref)) ((ms.filter p2).map fun m => some (mvV (kIx kept m.1, m.2.1, kIx kept m.2.2))) hM2 (fun H7 s7 => .of (s7 _ _ eI)) (by rw [List.length_map, List.length_map, ol]) (by rw [List.length_map]; omega) ?_ ?_
  · rintro i x ob H7 H8 C hi s7 ⟨rfl, hx⟩ hb hC
    rw [List.length_map] at hi
    have hi2 : i < (ms.filter p2).length := by omega
    rw [List.getElem?_map, List.getElem?_eq_getElem hi] at hx
    rw [List.getElem?_map, List.getElem?_eq_getElem hi2] at hb
    cases hx
    cases hb
    have eu := s7 _ _ (hm6.g i _ _ (List.getElem?_eq_getElem hi) (List.getElem?_eq_getElem hi2))
    obtain ⟨c1, c2⟩ := kin _ (List.getElem_mem hi2)
    generalize (ms.filter p2)[i] = m at eu c1 c2 hC
    have eK7 := s7 _ _ eKA6
    walk_at "st"
    refine ⟨rfl, ?_⟩
    walk_at "st"
    refine ⟨tyL eK7, ?_⟩
    walk_at "st"
    refine ixA_tup (.of eu) ix0 ?_
    walk_at "st"
    refine index_int knd eK7 c1 ?_
    walk_at "st"
    refine ixA_tup (.of eu) ix1 ?_
    walk_at "st"
    refine ⟨tyL eK7, ?_⟩
    walk_at "st"
    refine ixA_tup (.of eu) ix2 ?_
    walk_at "st"
    refine index_int knd eK7 c2 ?_
    walk_at "st"
    intro tp htp
    exact hC _ _ (Same.new htp) ⟨_, rfl, _, rfl, upd_same⟩
  rintro H7 ys7 s7 eM7 it7
  have e7 : ((ms.filter p2).map fun m => some (mvV (kIx kept m.1, m.2.1, kIx kept m.2.2))).filterMap id = (keptM kept ms).map mvV := by
    rw [fm_some]
    unfold keptM
    rw [List.map_map]; rfl
  rw [e7] at it7
  obtain ⟨us7, rfl, hm7⟩ := items_mv it7
  have s27 := s26.trans s7
  have eKA7 := s7 _ _ eKA6
  walk_at "st"
  refine lenA_lst (.of eKA7) ?_
  rw [List.length_map]
  walk_at "st"
  have eL7 := s27 _ _ eL
  refine ⟨L, rfl, ⟨_, .of eL7⟩, fun L2 hL2 => ?_⟩
  refine lcA (walk_list (K := K) (a := L) (xs := ls.map V.int)) (ls.map fun x => if decide (x ∈ kept) = true then some (.inl (V.int (kIx kept x))) else none) hL2 (fun H8 s8 => .of (s8 _ _ eL7)) (by rw [List.length_map, List.length_map]) (by rw [List.length_map]; omega) ?_ ?_
  · rintro i x ob H8 H9 C hi s8 ⟨rfl, hx⟩ hb hC
    rw [List.length_map] at hi
    rw [List.getElem?_map, List.getElem?_eq_getElem hi] at hx hb
    cases hx
    have hb : ob = if decide (ls[i] ∈ kept) = true then some (.inl (V.int (kIx kept ls[i]))) else none := (Option.some.inj hb).symm
    generalize ls[i] = x at hb
    have eK8 := s8 _ _ eKA7
    walk_at "st"
    refine ⟨rfl, ?_⟩
    walk_at "st"
    refine inA_ints (.of eK8) ?_
    walk_at "st"
    by_cases c : x ∈ kept
    · rw [if_pos (decide_eq_true c)] at hb
      subst hb
      refine rd_iteB (decide_eq_true c) ?_
      walk_at "st"
      refine ⟨tyL eK8, ?_⟩
      walk_at "st"
      refine index_int knd eK8 c ?_
      exact hC _ _ (Same.refl _) ⟨_, rfl, rfl⟩
    · rw [decide_eq_false c] at hb
      subst hb
      refine rd_iteC (decide_eq_false c) ?_
      exact hC _ none (Same.refl _) rfl
  rintro H8 ys8 s8 eL8 it8
  have ey8 : ys8 = (keptL kept ls).map V.int := by
    have e : (ls.map fun x => if decide (x ∈ kept) = true then some (Sum.inl (V.int (kIx kept x)) : V ⊕ List V) else none).filterMap id = ((keptL kept ls).map V.int).map Sum.inl := by
      rw [fm_if ls (fun x => decide (x ∈ kept)) fun x => (Sum.inl (V.int (kIx kept x)) : V ⊕ List V)]
      unfold keptL
      rw [List.map_map, List.map_map]; rfl
    rw [e] at it8
    exact items_v it8
  subst ey8
  have s28 := s27.trans s8
  walk_at "st"
  intro pa hpa
  have spa := Same.new (o := .tup [V.int (kept.length : Int), V.ref L2, V.ref M2]) hpa
  exact h pa L2 M2 us7 _ _ (keptM kept ms) _ (Keep.same (s28.trans spa)) (hd.same (s28.trans spa)) ⟨upd_same, spa _ _ eL8, spa _ _ (s8 _ _ eM7), hm7.keep fun u xs e => spa _ _ (s8 _ _ e)⟩ (dn (hd.same s27) hL2) (dn (hd.same s26) hM2) ok
/-! _law_lot_of, walked -/
theorem rd_listStr {z : Str} {H : Hp} {Q : VK} (hz : z.cps.size ≤ 1000000) (h : ∀ l, H l = none → Q (.ref l) (upd H l (.lst (z.cps.toList.map fun c => V.str ⟨#[c]⟩)))) : rListStr [.str z] H Q := ⟨z, rfl, hz, h⟩
theorem lot_of_ok {d : Addr} {sg : List Nat} {H : Hp} {Q : VK} {E : XK} (hd : DrL H d) (nd : sg.Nodup) (hl : ∀ c ∈ sg, c ∈ letters) (s1 : 1 ≤ sg.length) (s3 : sg.length ≤ 3)
    (h : ∀ pa La Ma us n last ms H', Keep d H H' → DrL H' d → PartsAt H' pa La Ma us n last ms → La ≠ d → Ma ≠ d → LotOk n last ms → Q (.ref pa) H') : sp_law_lot_of K [.ref d, .str (tx sg)] H Q E := by
  refine ⟨rfl, ?_⟩
  unfold t_law_lot_of
  have scl : (sortC sg).length = sg.length := (sortC_perm sg).length_eq
  have zsg : (tx sg).cps.size ≤ 1000000 := by have := tx_len sg; show (tx sg).length ≤ _; omega
  walk_at "sq"
  walk_at "st"
  refine pick_ok (by decide) hd fun r H1 r0 r1 k1 d1 => ?_
  have dn : ∀ {H2 : Hp} {b : Addr}, DrL H2 d → H2 b = none → b ≠ d := fun dd hb e => by
    obtain ⟨_, _, q⟩ := dd
    rw [e, q] at hb
    cases hb
  walk_at "st"
  walk_at "sq"
  walk_at "st"
  by_cases e0 : r = 0
  · subst e0
    refine rd_iteB rfl ?_
    walk_at "st"
    intro La hLa
    have sL := Same.new (o := .lst [V.int 0]) hLa
    walk_at "st"
    refine rd_listStr zsg fun L1 hL1 => ?_
    rw [tx_toList]
    have sL1 := Same.new (o := .lst (sg.map fun c => V.str ⟨#[c]⟩)) hL1
    walk_at "st"
    refine sorted_sg upd_same fun p hp => ?_
    have sp := Same.new (o := .lst ((sortC sg).map fun c => V.str (tx [c]))) hp
    refine ⟨p, rfl, ⟨_, .of upd_same⟩, fun D hD => ?_⟩
    have ep : upd (upd (upd H1 La (.lst [V.int 0])) L1 (.lst (sg.map fun c => V.str ⟨#[c]⟩))) p (.lst ((sortC sg).map fun c => V.str (tx [c]))) p = some (.lst ((sortC sg).map fun c => V.str (tx [c]))) := upd_same
    have eLa := sp _ _ (sL1 _ _ (show upd H1 La (.lst [V.int 0]) La = some (.lst [V.int 0]) from upd_same))
    have s2 := (sL.trans sL1).trans sp
    generalize upd (upd (upd H1 La (.lst [V.int 0])) L1 (.lst (sg.map fun c => V.str ⟨#[c]⟩))) p (.lst ((sortC sg).map fun c => V.str (tx [c]))) = H2 at hD ep eLa s2 ⊢
    refine lcA (walk_list (K := K) (a := p) (xs := (sortC sg).map fun c => V.str (tx [c]))) ((evM (sortC sg)).map fun m => some (mvV m)) hD (fun H3 s3 => .of (s3 _ _ ep)) (by unfold evM; simp) (by rw [List.length_map]; omega) ?_ ?_
    · rintro i x ob H3 H4 C hi s3' ⟨rfl, hx⟩ hb hC
      rw [List.length_map] at hi
      unfold evM at hb
      rw [List.getElem?_map, List.getElem?_eq_getElem hi] at hx
      rw [List.getElem?_map, List.getElem?_map, List.getElem?_eq_getElem hi] at hb
      cases hx
      cases hb
      walk_at "st"
      refine ⟨rfl, ?_⟩
      walk_at "st"
      intro tp htp
      exact hC _ _ (Same.new htp) ⟨_, rfl, _, rfl, upd_same⟩
    · rintro H3 ys s3' eD it
      rw [fm_some] at it
      obtain ⟨us, rfl, hm⟩ := items_mv it
      walk_at "st"
      intro pa hpa
      have spa := Same.new (o := .tup [V.int 1, V.ref La, V.ref D]) hpa
      have s13 := s2.trans s3'
      exact h pa La D us 1 [0] (evM (sortC sg)) _ (k1.trans (Keep.same (s13.trans spa))) (d1.same (s13.trans spa)) ⟨upd_same, spa _ _ (s3' _ _ eLa), spa _ _ eD, hm.keep fun u xs e => spa _ _ e⟩ (dn d1 hLa) (dn (d1.same s2) hD) (lotOk0 nd hl (by omega))
  refine rd_iteC (decide_eq_false e0) ?_
  walk_at "st"
  walk_at "sq"
  walk_at "st"
  by_cases e1 : r = 1
  · subst e1
    refine rd_iteB rfl ?_
    walk_at "sq"
    walk_at "st"
    refine word_ok (by rw [tx_len]; omega) (by rw [tx_len]; omega) (by decide) (by decide) (by decide) d1 fun t H2 ht t0 t6 k2 d2 => ?_
    rw [tx_toList] at ht
    have t6' : t.length ≤ 6 := by omega
    walk_at "st"
    refine lenA_str (by rw [tx_len]; exact small2 (by omega)) ?_
    rw [tx_len]
    walk_at "st"
    refine lenA_str (by rw [tx_len]; exact small2 (by omega)) ?_
    rw [tx_len]
    walk_at "st"
    intro La hLa
    have sL := Same.new (o := .lst [V.int (t.length : Int)]) hLa
    walk_at "st"
    refine lenA_str (by rw [tx_len]; exact small2 (by omega)) ?_
    rw [tx_len]
    walk_at "st"
    refine ⟨_, rfl, by omega, by omega, fun D hD => ?_⟩
    rw [Int.toNat_natCast]
    refine lcA (walk_range (lo := 0) (n := t.length)) ((chM t).map fun m => some (mvV m)) hD (fun _ _ => trivial) (by unfold chM; simp) (by omega) ?_ ?_
    · rintro i x ob H3 H4 C hi s3' ⟨rfl, rfl⟩ hb hC
      unfold chM at hb
      rw [List.getElem?_map, List.getElem?_map, List.getElem?_range hi] at hb
      have hb : ob = some (mvV ((i : Int), tx [t[i]?.getD 0], ((i : Int) + 1))) := (Option.some.inj hb).symm
      rw [List.getElem?_eq_getElem hi] at hb
      subst hb
      show gName 15 (V.int (0 + (i : Int))) _ _ _
      rw [Int.zero_add]
      walk_at "st"
      refine ⟨rfl, ?_⟩
      walk_at "st"
      refine ixA_str (by rw [tx_len]; exact small2 (by omega)) (atI_nat (j := i) (v := t[i]) (by rw [tx_toList]; exact List.getElem?_eq_getElem hi)) ?_
      walk_at "st"
      intro tp htp
      exact hC _ _ (Same.new htp) ⟨_, rfl, _, rfl, upd_same⟩
    · rintro H3 ys s3' eD it
      rw [fm_some] at it
      obtain ⟨us, rfl, hm⟩ := items_mv it
      walk_at "st"
      intro pa hpa
      have spa := Same.new (o := .tup [V.int ((t.length : Int) + 1), V.ref La, V.ref D]) hpa
      have eLa := spa _ _ (s3' _ _ (show upd H2 La (.lst [V.int (t.length : Int)]) La = _ from upd_same))
      have s13 := sL.trans s3'
      exact h pa La D us ((t.length : Int) + 1) [(t.length : Int)] (chM t) _ ((k1.trans k2).trans (Keep.same (s13.trans spa))) (d2.same (s13.trans spa)) ⟨upd_same, eLa, spa _ _ eD, hm.keep fun u xs e => spa _ _ e⟩ (dn d2 hLa) (dn (d2.same sL) hD) (lotOk1 (fun c hc => hl c (ht c hc)) t6')
  refine rd_iteC (decide_eq_false e1) ?_
  walk_at "st"
  walk_at "sq"
  walk_at "st"
  refine pick_ok (by decide) d1 fun q H2 q0 q1 k2 d2 => ?_
  obtain ⟨n, hn⟩ : ∃ n : Int, n = 1 + q := ⟨_, rfl⟩
  walk_at "st"
  rw [← hn]
  have n1 : 1 ≤ n := by omega
  have n3 : n ≤ 3 := by omega
  clear hn
  walk_at "sq"
  walk_at "st"
  intro M hM
  have nM : M ≠ d := dn d2 hM
  have sM := Same.new (o := .lst []) hM
  have kM := (k1.trans k2).trans (Keep.same sM)
  have fM : H M = none := ((k1.trans k2).free nM hM)
  walk_at "st"
  walk_at "sq"
  walk_at "st"
  refine ⟨n, rfl, by omega, by omega, ?_⟩
  refine forR (n := n) (fun i σ H3 => Keep d H H3 ∧ DrL H3 d ∧ (∃ v5 v12 v13, σ = [some (.ref d), some (.str (tx sg)), some (.int r), some (.int n), some (.ref M), v5, none, none, none, none, none, none, v12, v13, none, none]) ∧ ∃ (us : List Addr) (ms : List Mv), H3 M = some (.lst (us.map V.ref)) ∧ MvsAt H3 us ms ∧ ms.Pairwise ltK ∧ (∀ m ∈ ms, MvOk n m) ∧ (∀ m ∈ ms, m.1 < i) ∧ ms.length ≤ 3 * i)
    ⟨kM, d2.same sM, ⟨none, none, none, rfl⟩, [], [], upd_same, ⟨rfl, fun i u m a => by simp at a⟩, List.Pairwise.nil, fun m hm => (nomatch hm), fun m hm => (nomatch hm), Nat.zero_le _⟩ ?_ ?_
  · rintro i σ H3 hi ⟨k3, d3, ⟨v5, v12, v13, rfl⟩, us, ms, eM, hm, up, mo, lt, le⟩
    walk_at "st"
    refine rd_listStr zsg fun L1 hL1 => ?_
    rw [tx_toList]
    have sL1 := Same.new (o := .lst (sg.map fun c => V.str ⟨#[c]⟩)) hL1
    walk_at "st"
    refine sorted_sg upd_same fun p hp => ?_
    have sp := Same.new (o := .lst ((sortC sg).map fun c => V.str (tx [c]))) hp
    refine ⟨p, rfl, ⟨_, .of upd_same⟩, ?_⟩
    have ep : upd (upd H3 L1 (.lst (sg.map fun c => V.str ⟨#[c]⟩))) p (.lst ((sortC sg).map fun c => V.str (tx [c]))) p = some (.lst ((sortC sg).map fun c => V.str (tx [c]))) := upd_same
    have s34 := sL1.trans sp
    have np : p ≠ d := dn (d3.same sL1) hp
    have npM : p ≠ M := fun e => by rw [e, sL1 _ _ eM] at hp; cases hp
    generalize upd (upd H3 L1 (.lst (sg.map fun c => V.str ⟨#[c]⟩))) p (.lst ((sortC sg).map fun c => V.str (tx [c]))) = H4 at ep s34 ⊢
    refine for_list (K := K) (a := p) (xs := (sortC sg).map fun c => V.str (tx [c])) (fun j σ H5 => Keep d H H5 ∧ DrL H5 d ∧ H5 p = some (.lst ((sortC sg).map fun c => V.str (tx [c]))) ∧ (∃ v12 v13, σ = [some (.ref d), some (.str (tx sg)), some (.int r), some (.int n), some (.ref M), some (.int i), none, none, none, none, none, none, v12, v13, none, none]) ∧ ∃ (us : List Addr) (ms : List Mv), H5 M = some (.lst (us.map V.ref)) ∧ MvsAt H5 us ms ∧ ms.Pairwise ltK ∧ (∀ m ∈ ms, MvOk n m) ∧ (∀ m ∈ ms, m.1 < i ∨ (m.1 = i ∧ ∃ a ∈ (sortC sg).take j, m.2.1 = tx [a])) ∧ ms.length ≤ 3 * i + j)
      ⟨k3.trans (Keep.same s34), d3.same s34, ep, ⟨_, _, rfl⟩, us, ms, s34 _ _ eM, hm.keep (fun u xs e => s34 _ _ e), up, mo, fun m hm => .inl (lt m hm), le⟩ (fun j σ H5 _ q => .of q.2.2.1) ?_ ?_
    · rintro j x σ H5 hj ⟨k5, d5, ep5, ⟨v12', v13', rfl⟩, us5, ms5, eM5, hm5, up5, mo5, lt5, le5⟩
      rw [List.getElem?_map] at hj
      have hj2 : j < (sortC sg).length := by
        cases e : (sortC sg)[j]? with
        | none => rw [e] at hj; cases hj
        | some c => exact (List.getElem?_eq_some_iff.mp e).1
      rw [List.getElem?_eq_getElem hj2] at hj
      cases hj
      have etk : (sortC sg).take (j + 1) = (sortC sg).take j ++ [(sortC sg)[j]] := List.take_succ_eq_append_getElem hj2
      have hc : (sortC sg)[j] ∈ letters := hl _ ((sortC_perm sg).mem_iff.mp (List.getElem_mem hj2))
      have before : ∀ a ∈ (sortC sg).take j, ([a] : List Nat) < [(sortC sg)[j]] := fun a ha => by
        obtain ⟨k, hk, ek⟩ := List.mem_iff_getElem.mp ha
        rw [List.length_take] at hk
        rw [List.getElem_take] at ek
        rw [← ek]
        exact List.pairwise_iff_getElem.mp (sortC_up nd) k j (by omega) hj2 (by omega)
      generalize (sortC sg)[j] = c at etk hc before
      walk_at "st"
      walk_at "sq"
      walk_at "st"
      refine pick_ok (by omega) d5 fun w H6 w0 w1 k6 d6 => ?_
      have eM6 := k6 _ _ nM eM5
      have ep6 := k6 _ _ np ep5
      have hm6 : MvsAt H6 us5 ms5 := hm5.keep fun u xs e => k6 _ _ (fun z => by obtain ⟨_, _, y⟩ := d5; rw [z, y] at e; cases e) e
      walk_at "st"
      by_cases hw : w < n
      · refine rd_iteB (decide_eq_true hw) ?_
        walk_at "st"
        refine ⟨tyL eM6, ?_⟩
        walk_at "st"
        intro tp htp
        have st := Same.new (o := .tup [V.int (i : Int), V.str (tx [c]), V.int w]) htp
        walk_at "st"
        refine append_go (st _ _ eM6) (by rw [List.length_map]; have := hm5.l; omega) ?_
        walk_at "st"
        have kt : ∀ u xs, upd H6 tp (.tup [V.int (i : Int), V.str (tx [c]), V.int w]) u = some (.tup xs) → upd (upd H6 tp (.tup [V.int (i : Int), V.str (tx [c]), V.int w])) M (.lst (us5.map V.ref ++ [V.ref tp])) u = some (.tup xs) := fun u xs e => by
          rw [upd_ne (fun z => by rw [z, st _ _ eM6] at e; cases e)]; exact e
        have nt : tp ≠ d := dn d6 htp
        refine ⟨fun b o nb e => ?_, ?_, ?_, ⟨_, _, rfl⟩, us5 ++ [tp], ms5 ++ [((i : Int), tx [c], w)], by rw [upd_same, List.map_append]; rfl, ?_, ?_, fun m hm' => ?_, fun m hm' => ?_, ?_⟩
        · rw [upd_ne (ne_of_none e fM)]
          exact st _ _ (k6 _ _ nb (k5 _ _ nb e))
        · obtain ⟨ds, z1, z2⟩ := d6
          exact ⟨ds, z1, by rw [upd_ne (Ne.symm nM)]; exact st _ _ z2⟩
        · rw [upd_ne npM]
          exact st _ _ ep6
        · refine ⟨by rw [List.length_append, List.length_append, hm6.l]; rfl, fun k u m a b => ?_⟩
          by_cases hk : k < us5.length
          · rw [List.getElem?_append_left hk] at a
            rw [List.getElem?_append_left (by rw [← hm6.l]; exact hk)] at b
            exact kt _ _ (st _ _ (hm6.g k u m a b))
          · have l1 := (List.getElem?_eq_some_iff.mp a).1
            rw [List.length_append, List.length_singleton] at l1
            have ek : k = us5.length := by omega
            subst ek
            rw [List.getElem?_append_right (Nat.le_refl _), Nat.sub_self] at a
            rw [hm6.l, List.getElem?_append_right (Nat.le_refl _), Nat.sub_self] at b
            cases a
            cases b
            exact kt _ _ upd_same
        · refine List.pairwise_append.mpr ⟨up5, by simp, fun a ha b hb => ?_⟩
          rw [List.mem_singleton.mp hb]
          rcases lt5 a ha with z | ⟨z, a', ha', ea⟩
          · exact .inl z
          · exact .inr ⟨z, by rw [ea, tx_toList, tx_toList]; exact before a' ha'⟩
        · rcases List.mem_append.mp hm' with z | z
          · exact mo5 m z
          · rw [List.mem_singleton.mp z]
            exact ⟨⟨by show (0 : Int) ≤ i; omega, by show (i : Int) < n; omega⟩, ⟨w0, hw⟩, c, hc, rfl⟩
        · rw [etk]
          rcases List.mem_append.mp hm' with z | z
          · rcases lt5 m z with y | ⟨y, a', ha', ea⟩
            · exact .inl y
            · exact .inr ⟨y, a', List.mem_append_left _ ha', ea⟩
          · rw [List.mem_singleton.mp z]
            exact .inr ⟨rfl, c, List.mem_append_right _ (by simp), rfl⟩
        · rw [List.length_append, List.length_singleton]; omega
      · refine rd_iteC (decide_eq_false hw) ?_
        walk_at "st"
        refine ⟨k5.trans k6, d6, ep6, ⟨_, _, rfl⟩, us5, ms5, eM6, hm6, up5, mo5, fun m hm' => ?_, by omega⟩
        rw [etk]
        rcases lt5 m hm' with y | ⟨y, a', ha', ea⟩
        · exact .inl y
        · exact .inr ⟨y, a', List.mem_append_left _ ha', ea⟩
    · rintro σ H5 ⟨k5, d5, ep5, ⟨v12', v13', rfl⟩, us5, ms5, eM5, hm5, up5, mo5, lt5, le5⟩
      rw [List.length_map, scl] at le5
      refine ⟨k5, d5, ⟨_, _, _, rfl⟩, us5, ms5, eM5, hm5, up5, mo5, fun m hm' => ?_, by omega⟩
      rcases lt5 m hm' with y | ⟨y, _⟩
      · omega
      · omega
  · rintro σ H3 ⟨k3, d3, ⟨v5, v12, v13, rfl⟩, us, ms, eM, hm, up, mo, lt, le⟩
    have m9 : ms.length ≤ 9 := by omega
    walk_at "sq"
    walk_at "st"
    have fin3 : H3 d ≠ none := fun e => by obtain ⟨_, _, q⟩ := d3; rw [e] at q; cases q
    refine ⟨n, rfl, by omega, by omega, fun L hL => ?_⟩
    have nL : L ≠ d := dn d3 hL
    unfold LcAt
    refine lc_it (Qd := _) (walk_range (lo := 0) (n := n.toNat)) (fun i H4 => Keep d H3 H4 ∧ DrL H4 d ∧ ∃ ls : List Int, H4 L = some (.lst (ls.map V.int)) ∧ ls.Pairwise (· < ·) ∧ (∀ s ∈ ls, 0 ≤ s ∧ s < i) ∧ ls.length ≤ i)
      ⟨Keep.new hL, d3.same (Same.new hL), [], upd_same, List.Pairwise.nil, fun s hs => (nomatch hs), Nat.zero_le _⟩ (fun _ _ _ _ => trivial) ?_ ?_
    · rintro i x H4 H5 hi ⟨k4, d4, ls, eL, lu, lb, ll⟩ ⟨rfl, rfl⟩
      show gName 5 (V.int (0 + (i : Int))) _ _ _
      rw [Int.zero_add]
      walk_at "st"
      refine ⟨rfl, ?_⟩
      walk_at "st"
      refine pick_ok (by decide) d4 fun w H6 w0 w1 k6 d6 => ?_
      have eL6 := k6 _ _ nL eL
      walk_at "st"
      by_cases c : w = 1
      · refine rd_iteB (decide_eq_true c) ?_
        walk_at "st"
        refine ⟨_, eL6, by rw [List.length_map, sizeLine_eq]; omega, fun b o nb e => ?_, ?_, ls ++ [(i : Int)], by rw [upd_same, mapI_app], ?_, fun s hs => ?_, by rw [List.length_append, List.length_singleton]; omega⟩
        · rw [upd_ne (ne_of_none e hL)]
          exact k6 _ _ nb (k4 _ _ nb e)
        · obtain ⟨ds, z1, z2⟩ := d6
          exact ⟨ds, z1, by rw [upd_ne (Ne.symm nL)]; exact z2⟩
        · exact List.pairwise_append.mpr ⟨lu, by simp, fun a ha b hb => by rw [List.mem_singleton.mp hb]; exact (lb a ha).2⟩
        · rcases List.mem_append.mp hs with z | z
          · have := lb s z; omega
          · rw [List.mem_singleton.mp z]; omega
      · refine rd_iteC (decide_eq_false c) ?_
        exact ⟨k4.trans k6, d6, ls, eL6, lu, fun s hs => by have := lb s hs; omega, by omega⟩
    rintro H4 ⟨k4, d4, ls, eL, lu, lb, ll⟩
    have tup4 : ∀ u xs, H3 u = some (.tup xs) → H4 u = some (.tup xs) := fun u xs e => k4 _ _ (fun z => by obtain ⟨_, _, y⟩ := d3; rw [z, y] at e; cases e) e
    have hm4 := hm.keep tup4
    have eM4 := k4 _ _ nM eM
    have kH4 := k3.trans k4
    have ul : us.length = ms.length := hm.l
    clear hm eM
    walk_at "st"
    walk_at "sq"
    walk_at "st"
    intro A0 hA0
    have sA := Same.new (o := .lst [V.int 0]) hA0
    have eA : upd H4 A0 (.lst [V.int 0]) A0 = some (.lst (([0] : List Int).map V.int)) := upd_same
    have eM5 := sA _ _ eM4
    have eL5 := sA _ _ eL
    have hm5 := hm4.keep (H' := upd H4 A0 (.lst [V.int 0])) fun u xs e => sA _ _ e
    generalize upd H4 A0 (.lst [V.int 0]) = H5 at sA eA eM5 eL5 hm5 ⊢
    walk_at "st"
    refine ⟨M, rfl, ⟨_, .of eM5⟩, fun D hD => ?_⟩
    refine lcA (walk_list (K := K) (a := M) (xs := us.map V.ref)) (ms.map fun m => some (prV (m.1, m.2.2))) hD (fun H2 s2 => .of (s2 _ _ eM5)) (by rw [List.length_map, List.length_map, ul]) (by rw [List.length_map]; omega) ?_ ?_
    · rintro i x ob H6 H7 C hi s6 ⟨rfl, hx⟩ hb hC
      rw [List.length_map] at hi
      have hi2 : i < ms.length := by omega
      rw [List.getElem?_map, List.getElem?_eq_getElem hi] at hx
      rw [List.getElem?_map, List.getElem?_eq_getElem hi2] at hb
      cases hx
      cases hb
      have eu := s6 _ _ (hm5.g i _ _ (List.getElem?_eq_getElem hi) (List.getElem?_eq_getElem hi2))
      walk_at "st"
      refine ⟨rfl, ?_⟩
      walk_at "st"
      refine ixA_tup (.of eu) ix0 ?_
      walk_at "st"
      refine ixA_tup (.of eu) ix2 ?_
      walk_at "st"
      intro tp htp
      exact hC _ _ (Same.new htp) ⟨_, rfl, _, rfl, upd_same⟩
    rintro H6 ys s6 eD it
    have e1' : (ms.map fun m => some (prV (m.1, m.2.2))).filterMap id = (ms.map fun m => (m.1, m.2.2)).map prV := by rw [fm_some, List.map_map]; rfl
    rw [e1'] at it
    walk_at "st"
    refine led_ok (s6 _ _ eA) eD it (by simp) (by simp) (fun s hs => by rw [List.mem_singleton.mp hs]; decide) (fun q hq => by
      obtain ⟨m, hm, rfl⟩ := List.mem_map.mp hq
      have := (mo m hm).b
      show 0 ≤ m.2.2 ∧ m.2.2 < 3
      omega) fun F1 H7 fs s7 hF1 eF1 gf => ?_
    have ff : ∀ x, x ∈ fs ↔ Rch (fwE ms) [0] x := fun x => (gf x).trans (rch_iff fun a b => arF)
    have s57 := s6.trans s7
    have s47 := sA.trans s57
    have eL7 := s57 _ _ eL5
    have eM7 := s57 _ _ eM5
    have hm7 := hm5.keep (H' := H7) fun u xs e => s57 _ _ e
    walk_at "st"
    walk_at "sq"
    walk_at "st"
    refine ⟨L, rfl, ⟨_, .of eL7⟩, fun T1 hT1 => ?_⟩
    refine lcA (walk_list (K := K) (a := L) (xs := ls.map V.int)) (ls.map fun x => if decide (x ∈ fs) = true then some (.inl (V.int x)) else none) hT1 (fun H8 s8 => .of (s8 _ _ eL7)) (by rw [List.length_map, List.length_map]) (by rw [List.length_map]; omega) ?_ ?_
    · rintro i x ob H8 H9 C hi s8 ⟨rfl, hx⟩ hb hC
      rw [List.length_map] at hi
      rw [List.getElem?_map, List.getElem?_eq_getElem hi] at hx hb
      cases hx
      have hb : ob = if decide (ls[i] ∈ fs) = true then some (.inl (V.int ls[i])) else none := (Option.some.inj hb).symm
      generalize ls[i] = x at hb
      walk_at "st"
      refine ⟨rfl, ?_⟩
      walk_at "st"
      refine inA_ints (.of (s8 _ _ eF1)) ?_
      walk_at "st"
      by_cases c : x ∈ fs
      · rw [if_pos (decide_eq_true c)] at hb
        subst hb
        refine rd_iteB (decide_eq_true c) ?_
        walk_at "st"
        exact hC _ _ (Same.refl _) ⟨_, rfl, rfl⟩
      · rw [decide_eq_false c] at hb
        subst hb
        refine rd_iteC (decide_eq_false c) ?_
        exact hC _ none (Same.refl _) rfl
    rintro H8 ys8 s8 eT it8
    have ey8 : ys8 = (ls.filter fun x => decide (x ∈ fs)).map V.int := by
      have e : (ls.map fun x => if decide (x ∈ fs) = true then some (Sum.inl (V.int x) : V ⊕ List V) else none).filterMap id = ((ls.filter fun x => decide (x ∈ fs)).map V.int).map Sum.inl := by
        rw [fm_if ls (fun x => decide (x ∈ fs)) fun x => (Sum.inl (V.int x) : V ⊕ List V), List.map_map]; rfl
      rw [e] at it8
      exact items_v it8
    subst ey8
    walk_at "st"
    intro N0 hN0
    have sN := Same.new (o := .lst []) hN0
    walk_at "st"
    refine eqA_intsNil (sN _ _ eT) upd_same ?_
    have s89 := s8.trans sN
    have s49 := s47.trans s89
    have eL9 := s89 _ _ eL7
    have eM9 := s89 _ _ eM7
    have eF9 := s89 _ _ eF1
    have hm9 := hm7.keep (H' := upd H8 N0 (.lst [])) fun u xs e => s89 _ _ e
    have d9 := d4.same s49
    have k9 := kH4.trans (Keep.same s49)
    generalize upd H8 N0 (.lst []) = H9 at s49 eL9 eM9 eF9 hm9 d9 k9 ⊢
    walk_at "st"
    by_cases me : (ls.filter fun x => decide (x ∈ fs)) = []
    · refine rd_iteB (by rw [me]; rfl) ?_
      walk_at "st"
      intro Z hZ
      have sZ := Same.new (o := .lst [V.int 0]) hZ
      walk_at "st"
      exact lot2_ok (ls := [0]) (d9.same sZ) (sZ _ _ eM9) (hm9.keep fun u xs e => sZ _ _ e) upd_same (sZ _ _ eF9) n1 n3 mo up m9 (fun s hs => by rw [List.mem_singleton.mp hs]; omega) (by simp) ff ⟨0, by simp, .s (by simp)⟩ fun pa La Ma us' n' last ms' H' k' => h pa La Ma us' n' last ms' H' ((k9.trans (Keep.same sZ)).trans k')
    · refine rd_iteC (by cases q : (ls.filter fun x => decide (x ∈ fs)) with | nil => exact absurd q me | cons _ _ => rfl) ?_
      walk_at "st"
      obtain ⟨s, hs⟩ := List.exists_mem_of_ne_nil _ me
      obtain ⟨hs1, hs2⟩ := List.mem_filter.mp hs
      exact lot2_ok (ls := ls) d9 eM9 hm9 eL9 eF9 n1 n3 mo up m9 (fun s hs => by have := lb s hs; omega) lu ff ⟨s, hs1, (ff s).mp (of_decide_eq_true hs2)⟩ fun pa La Ma us' n' last ms' H' k' => h pa La Ma us' n' last ms' H' (k9.trans k')
/-! what the law itself needs -/
theorem MvsAt.append {H : Hp} {us vs : List Addr} {ms ns : List Mv} (h : MvsAt H us ms) (g : MvsAt H vs ns) : MvsAt H (us ++ vs) (ms ++ ns) := by
  induction us generalizing ms with
  | nil =>
    cases ms with
    | nil => exact g
    | cons m r => exact absurd h.l (by simp)
  | cons u us ih =>
    cases ms with
    | nil => exact absurd h.l (by simp)
    | cons m r => exact (ih ⟨by have := h.l; simp at this; exact this, fun i a b e1 e2 => h.g (i + 1) a b e1 e2⟩).cons (h.g 0 u m rfl rfl)
theorem MvsAt.one {H : Hp} {u : Addr} {m : Mv} (e : H u = some (.tup [.int m.1, .str m.2.1, .int m.2.2])) : MvsAt H [u] [m] := MvsAt.cons e ⟨rfl, fun i u m a => by simp at a⟩
theorem TabOf.conv {ms ms' tab : List Mv} (h : TabOf ms tab) (e : ∀ m, m ∈ ms ↔ m ∈ ms') : TabOf ms' tab := ⟨fun m => (h.mem m).trans (e m), h.nd⟩
theorem TabOf.len {ms tab : List Mv} (h : TabOf ms tab) : tab.length ≤ ms.length := by
  refine nodup_len ?_ fun x hx => (h.mem x).mp hx
  exact List.Pairwise.of_map mvKey (fun _ _ hne e => hne (by rw [e])) h.nd
theorem once {α : Type} [DecidableEq α] : ∀ l : List α, ∃ q : List α, q.Nodup ∧ ∀ x, x ∈ q ↔ x ∈ l
  | [] => ⟨[], List.Pairwise.nil, fun _ => Iff.rfl⟩
  | a :: r => by
    obtain ⟨q, nd, h⟩ := once r
    by_cases c : a ∈ q
    · exact ⟨q, nd, fun x => by rw [List.mem_cons, h x]; exact ⟨.inr, fun z => z.elim (fun e => by rw [e]; exact (h a).mp c) id⟩⟩
    · exact ⟨a :: q, List.nodup_cons.mpr ⟨c, nd⟩, fun x => by rw [List.mem_cons, List.mem_cons, h x]⟩
theorem names_ex (ws : List (List Nat)) : ∃ ns, Names ws ns := by
  obtain ⟨q, nd, h⟩ := once (ws.flatMap pf)
  have pm : (sortN q).Perm q := List.mergeSort_perm _ _
  have tot : PySem.W.TotalLe (PySem.W.dataLe false nmD) := PySem.W.sortLe_total _ _ _
  have pw := PySem.W.sort_pairwise tot q
  have both := List.pairwise_and_iff.mpr ⟨pw, pm.nodup_iff.mpr nd⟩
  refine ⟨sortN q, fun p => ?_, both.imp fun {a b} z => ?_⟩
  · rw [pm.mem_iff, h, List.mem_flatMap]
    exact ⟨fun ⟨w, a, b⟩ => ⟨w, a, pf_mem.mp b⟩, fun ⟨w, a, b⟩ => ⟨w, a, pf_mem.mpr b⟩⟩
  · cases e : ltN a b with
    | true => rfl
    | false =>
      have e2 : PySem.W.dataLe false nmD a b = !PySem.W.dataLt (nmD b) (nmD a) := rfl
      have q1 : PySem.W.dataLe false nmD a b = true := z.1
      rw [e2, dataLt_nm] at q1
      have e3 : ltN b a = false := by cases y : ltN b a with | true => rw [y] at q1; cases q1 | false => rfl
      exact absurd (ltN_conn e e3) z.2
theorem first_odd_ok {l : List Nat} {H : Hp} {Q : VK} {E : XK} (hl : l.length ≤ 10000) (h : Q (.int (fo l)) H) : sp_law_first_odd K [.str (tx l)] H Q E := by
  refine ⟨rfl, ?_⟩
  unfold t_law_first_odd
  walk_at "go"
  refine lenA_str (by rw [tx_len]; exact small2 (by omega)) ?_
  walk_at "go"
  rw [tx_len]
  refine ⟨l.length, rfl, by omega, by omega, ?_⟩
  refine forR (n := l.length) (fun i σ H2 => H2 = H ∧ (∃ v, σ = [some (.str (tx l)), v]) ∧ ∀ (j x : Nat), j < i → l[j]? = some x → x ∈ letters) ⟨rfl, ⟨none, rfl⟩, fun j x hj _ => absurd hj (Nat.not_lt_zero _)⟩ ?_ ?_
  · rintro i σ H2 hi ⟨rfl, ⟨v, rfl⟩, hp⟩
    have hi' : i < l.length := by omega
    walk_at "go"
    refine ixA_str (by rw [tx_len]; exact small2 (by omega)) (atI_nat (j := i) (v := l[i]) (by rw [tx_toList]; exact List.getElem?_eq_getElem hi')) ?_
    walk_at "go"
    refine notInA_sign ?_
    walk_at "go"
    refine rd_iteN (fun hc => ?_) (fun hc => ?_)
    · walk_at "go"
      rw [fo_at l i l[i] hp (List.getElem?_eq_getElem hi') hc] at h
      exact h
    · walk_at "go"
      refine ⟨rfl, ⟨_, rfl⟩, fun j x hj e => ?_⟩
      by_cases hji : j = i
      · subst hji
        rw [List.getElem?_eq_getElem hi'] at e
        rw [← Option.some.inj e]
        exact hc
      · exact hp j x (by omega) e
  · rintro σ H2 ⟨rfl, ⟨v, rfl⟩, hp⟩
    walk_at "go"
    rw [fo_none l (fun j x e => hp j x (by have := (List.getElem?_eq_some_iff.mp e).1; omega) e)] at h
    exact h
/-! _law_spread, _law_due_of -/
theorem neA_intsNil {K : Frg} {a p : Addr} {ds : List Int} {H : Hp} {Q : VK} (ha : H a = some (.lst (ds.map V.int))) (hp : H p = some (.lst [])) (h : Q (.bl (!ds.isEmpty)) H) : rNeA K (.ref a) (.ref p) H Q :=
  neA_data (.lst (SqL.of ha) (intsData ds)) (nilData hp) (shaped_ints ds) (shaped_ints []) (eqv_nil ds) h
def sortI (is : List Int) : List Int := is.mergeSort (PySem.W.dataLe false PyData.int)
theorem mem_sortI {is : List Int} {x : Int} : x ∈ sortI is ↔ x ∈ is := (List.mergeSort_perm _ _).mem_iff
theorem sorted_ints {D : Addr} {is : List Int} {H : Hp} {Q : VK} (hD : H D = some (.lst (is.map V.int)))
    (h : ∀ p, H p = none → Q (.ref p) (upd H p (.lst ((sortI is).map V.int)))) : rSortedD K [.ref D] H Q := by
  refine ⟨D, is.map fun i => (V.int i, PyData.int i), rfl, .of ?_, fun z hz => ?_, fun d hd d' hd' => ?_, .inr fun d hd => ?_, fun z hz => ?_, fun p hp => ?_⟩
  · rw [hD, List.map_map]; rfl
  · obtain ⟨x, hx, rfl⟩ := List.mem_map.mp hz
    exact .int _
  · rw [List.map_map] at hd hd'
    obtain ⟨x, _, rfl⟩ := List.mem_map.mp hd
    obtain ⟨y, _, rfl⟩ := List.mem_map.mp hd'
    rfl
  · rw [List.map_map] at hd
    obtain ⟨x, _, rfl⟩ := List.mem_map.mp hd
    exact ⟨(fun z => nomatch z), fun _ z => nomatch z⟩
  · obtain ⟨x, hx, rfl⟩ := List.mem_map.mp hz
    exact Nat.zero_le _
  · have e1 : srtD (is.map fun i => ((V.int i : V), PyData.int i)) = (sortI is).map fun i => ((V.int i : V), PyData.int i) :=
      (PySem.W.sort_maps (fun i : Int => ((V.int i : V), PyData.int i)) (fun _ _ _ _ => rfl)).symm
    rw [e1, List.map_map]
    exact h p hp
/-- the keys of a dict as a list -/
theorem rd_listDk {F : Addr} {kvs : List (Key × V)} {H : Hp} {Q : VK} (hF : H F = some (.dK kvs)) (h : ∀ p, H p = none → Q (.ref p) (upd H p (.lst (kvs.map fun kv => kV kv.1)))) : rListDk [.ref F] H Q := ⟨F, kvs, rfl, .inl hF, h⟩
theorem spread_ok {a d : Addr} {ss : List Int} {ks : List DLE} {H : Hp} {Q : VK} {E : XK} (hS : SqL K H a (ss.map V.int)) (hD : DL H d ks) (hn : ss.length + dlTot ks ≤ 1000000)
    (h : ∀ p H' (fs : List Int), Same H H' → H p = none → H' p = some (.lst (fs.map V.int)) → (∀ i, i ∈ fs ↔ Rch (gr ks) ss i) → Q (.ref p) H') : sp_law_spread K [.ref d, .ref a] H Q E := by
  refine ⟨rfl, ?_⟩
  unfold t_law_spread
  walk_at "sq"
  walk_at "st"
  intro F hF
  walk_at "st"
  walk_at "sq"
  walk_at "st"
  have sF := Same.new (o := .dK []) hF
  refine ⟨a, _, rfl, .inl (sF.seq hS), fun L hL => ?_⟩
  walk_at "st"
  have sL := Same.new (o := .lst (ss.map V.int)) hL
  have FL : F ≠ L := ne_of_none (show upd H F (.dK []) F = some (.dK []) from upd_same) hL
  have HL : H L = none := by rw [upd_ne (Ne.symm FL)] at hL; exact hL
  walk_at "sq"
  refine ⟨fun m σ H2 => ∃ (fs qs : List Int) (v4 : Option V), m = qs.length + phi ks fs ∧ σ = [some (.ref d), some (.ref a), some (.ref F), some (.ref L), v4] ∧ (∀ b o, H b = some o → H2 b = some o) ∧ H2 F = some (.dK (trK fs)) ∧ H2 L = some (.lst (qs.map V.int)) ∧ fs.Nodup ∧ m ≤ 1000000 ∧ fs.length ≤ 1000000 - m ∧
    (∀ i ∈ fs, Rch (gr ks) ss i) ∧ (∀ i ∈ qs, Rch (gr ks) ss i) ∧ (∀ i ∈ ss, i ∈ fs ∨ i ∈ qs) ∧ (∀ i ∈ fs, ∀ y ∈ gr ks i, y ∈ fs ∨ y ∈ qs), ⟨_, [], ss, none, rfl, rfl, fun b o e => sL _ _ (sF _ _ e), ?_, upd_same, List.Pairwise.nil, ?_, ?_, fun _ h => (nomatch h), fun i hi => .s hi, fun i hi => .inr hi, fun _ h => (nomatch h)⟩, ?_⟩
  · rw [upd_ne FL, upd_same]; rfl
  · have := phi_le ks []; omega
  · simp
  rintro m σ H1' ⟨fs, qs, v4, rfl, rfl, k1', eF', eL', nd, mb, fb, r1, r2, c1, c2⟩
  walk_at "st"
  intro N0 hN0
  have sN0 := Same.new (o := .lst []) hN0
  walk_at "st"
  refine neA_intsNil (sN0 _ _ eL') upd_same ?_
  have eF := sN0 _ _ eF'
  have eL := sN0 _ _ eL'
  have k2 : ∀ b o, H b = some o → upd H1' N0 (.lst []) b = some o := fun b o e => sN0 _ _ (k1' b o e)
  generalize upd H1' N0 (.lst []) = H2 at eF eL k2 ⊢
  walk_at "st"
  cases qs with
  | nil =>
    refine rd_iteC rfl ?_
    walk_at "st"
    refine rd_listDk eF fun p hp => ?_
    have sp := Same.new (o := .lst ((trK fs).map fun kv => kV kv.1)) hp
    walk_at "st"
    have ep : upd H2 p (.lst ((trK fs).map fun kv => kV kv.1)) p = some (.lst (fs.map V.int)) := by rw [upd_same]; unfold trK; rw [List.map_map]; rfl
    refine sorted_ints ep fun p2 hp2 => ?_
    have np : H p2 = none := by
      cases w : H p2 with
      | none => rfl
      | some o => rw [sp _ _ (k2 _ _ w)] at hp2; cases hp2
    refine h p2 _ (sortI fs) (fun b o e => ?_) np upd_same fun i => mem_sortI.trans ⟨r1 i, fun z => ?_⟩
    · rw [upd_ne (ne_of_none e np)]
      exact sp _ _ (k2 b o e)
    induction z with
    | s hx => exact (c1 _ hx).elim id fun q => (nomatch q)
    | e hx hy ih => exact (c2 _ ih _ hy).elim id fun q => (nomatch q)
  | cons q0 q1 =>
    obtain ⟨y, ey⟩ : ∃ y, (q0 :: q1) = (q0 :: q1).dropLast ++ [y] := ⟨(q0 :: q1).getLast (by simp), (List.dropLast_concat_getLast (by simp)).symm⟩
    generalize q0 :: q1 = qs at *
    have qne : qs ≠ [] := fun z => by rw [z] at ey; simp at ey
    have elen : qs.length = qs.dropLast.length + 1 := by
      have := congrArg List.length ey
      rw [List.length_append] at this
      exact this
    have ymem : y ∈ qs := by rw [ey]; simp
    refine rd_iteB (by cases qs with | nil => exact absurd rfl qne | cons _ _ => rfl) ?_
    have dsub : ∀ i ∈ qs.dropLast, i ∈ qs := fun i hi => List.dropLast_subset _ hi
    have split : ∀ i ∈ qs, i ∈ qs.dropLast ∨ i = y := fun i hi => by
      rw [ey] at hi
      rcases List.mem_append.mp hi with z | z
      · exact .inl z
      · exact .inr (List.mem_singleton.mp z)
    have mapd : (qs.map V.int).dropLast = qs.dropLast.map V.int := by rw [List.map_dropLast]
    have base : ∀ b o, H b = some o → upd H2 L (.lst ((qs.map V.int).dropLast)) b = some o := fun b o e => by rw [upd_ne (ne_of_none e HL)]; exact k2 _ _ e
    have eF1 : upd H2 L (.lst ((qs.map V.int).dropLast)) F = some (.dK (trK fs)) := by rw [upd_ne FL]; exact eF
    refine ⟨fun σ' H' => ∃ m', m' < qs.length + phi ks fs ∧ (fun m σ H2 => ∃ (fs qs : List Int) (v4 : Option V), m = qs.length + phi ks fs ∧ σ = [some (.ref d), some (.ref a), some (.ref F), some (.ref L), v4] ∧ (∀ b o, H b = some o → H2 b = some o) ∧ H2 F = some (.dK (trK fs)) ∧ H2 L = some (.lst (qs.map V.int)) ∧ fs.Nodup ∧ m ≤ 1000000 ∧ fs.length ≤ 1000000 - m ∧
      (∀ i ∈ fs, Rch (gr ks) ss i) ∧ (∀ i ∈ qs, Rch (gr ks) ss i) ∧ (∀ i ∈ ss, i ∈ fs ∨ i ∈ qs) ∧ (∀ i ∈ fs, ∀ y ∈ gr ks i, y ∈ fs ∨ y ∈ qs)) m' σ' H', fun σ' H' z => z, ?_⟩
    walk_at "sq"
    walk_at "st"
    refine ⟨tyL eL, L, _, .int y, rfl, rfl, eL, ints_last ey, ?_⟩
    walk_at "st"
    refine ⟨F, _, rfl, DGet.k (k := .inl y) eF1, ?_⟩
    refine ⟨_, rfl, ?_⟩
    rw [tr_val]
    refine rd_iteN (fun hy => ?_) (fun hy => ?_)
    · walk_at "sq"
      walk_at "st"
      refine ⟨F, _, rfl, DPut.k (k := .inl y) eF1 (by unfold trK; rw [List.length_map, sizeLine_eq]; omega), ?_⟩
      rw [tr_put hy]
      walk_at "st"
      have e2L : upd (upd H2 L (.lst ((qs.map V.int).dropLast))) F (.dK (trK (fs ++ [y]))) L = some (.lst (qs.dropLast.map V.int)) := by rw [upd_ne (Ne.symm FL), upd_same, mapd]
      have e2F : upd (upd H2 L (.lst ((qs.map V.int).dropLast))) F (.dK (trK (fs ++ [y]))) F = some (.dK (trK (fs ++ [y]))) := upd_same
      have base2 : ∀ b o, H b = some o → upd (upd H2 L (.lst ((qs.map V.int).dropLast))) F (.dK (trK (fs ++ [y]))) b = some o := fun b o e => by rw [upd_ne (ne_of_none e hF)]; exact base b o e
      generalize upd (upd H2 L (.lst ((qs.map V.int).dropLast))) F (.dK (trK (fs ++ [y]))) = H3 at e2L e2F base2 ⊢
      refine ⟨tyL e2L, ?_⟩
      walk_at "st"
      have D3 : DL H3 d ks := hD.keep fun b o _ e => base2 b o e
      refine ⟨d, rfl, .inl ⟨_, .inl D3.dk⟩, ?_⟩
      walk_at "st"
      intro p hp
      have sp := Same.new (o := .lst []) hp
      have pv : ∃ (q : Addr), ((valV (dlK ks) (.inl y)).getD (.ref p)) = .ref q ∧ upd H3 p (.lst []) q = some (.lst ((gr ks y).map V.int)) := by
        rcases dl_val ks y with ⟨z1, z2, _⟩ | ⟨b, l, z0, z1, z2⟩
        · rw [z1, z2]; exact ⟨p, rfl, upd_same⟩
        · rw [z1, z2]; exact ⟨b, rfl, sp _ _ (D3.ls _ z0)⟩
      refine ⟨_, DGet.k (k := .inl y) (sp _ _ D3.dk), ?_⟩
      obtain ⟨q, eq, eQ⟩ := pv
      rw [eq]
      walk_at "st"
      have pa := phi_add ks fs y hD.kd hy
      have b3 : (gr ks y).length ≤ dlTot ks := by
        rcases dl_val ks y with ⟨_, z2, _⟩ | ⟨b, l, z0, _, z2⟩
        · rw [z2]; exact Nat.zero_le _
        · rw [z2]; exact dlTot_len z0
      have nL : ∀ b o, H b = some o → b ≠ L := fun b o e => ne_of_none e HL
      refine ⟨L, q, _, _, rfl, rfl, sp _ _ e2L, eQ, by rw [List.length_map, List.length_map, sizeLine_eq]; omega, ?_⟩
      refine ⟨_, ?_, fs ++ [y], qs.dropLast ++ gr ks y, _, rfl, rfl, fun b o e => ?_, ?_, ?_, ?_, ?_, ?_, fun i hi => ?_, fun i hi => ?_, fun i hi => ?_, fun i hi w hw => ?_⟩
      · rw [List.length_append]; omega
      · rw [upd_ne (nL b o e)]
        exact sp _ _ (base2 b o e)
      · rw [upd_ne FL]
        exact sp _ _ e2F
      · rw [upd_same, List.map_append]
      · refine List.nodup_append.mpr ⟨nd, by simp, fun u hu w hw e => ?_⟩
        rw [List.mem_singleton.mp hw] at e
        exact hy (e ▸ hu)
      · rw [List.length_append]; omega
      · simp only [List.length_append, List.length_singleton]; omega
      · rcases List.mem_append.mp hi with z | z
        · exact r1 i z
        · rw [List.mem_singleton.mp z]; exact r2 y ymem
      · rcases List.mem_append.mp hi with z | z
        · exact r2 i (dsub i z)
        · exact .e (r2 y ymem) z
      · rcases c1 i hi with z | z
        · exact .inl (List.mem_append_left _ z)
        · rcases split i z with w | w
          · exact .inr (List.mem_append_left _ w)
          · exact .inl (by rw [w]; simp)
      · rcases List.mem_append.mp hi with z | z
        · rcases c2 i z w hw with u | u
          · exact .inl (List.mem_append_left _ u)
          · rcases split w u with v | v
            · exact .inr (List.mem_append_left _ v)
            · exact .inl (by rw [v]; simp)
        · rw [List.mem_singleton.mp z] at hw
          exact .inr (List.mem_append_right _ hw)
    · walk_at "st"
      refine ⟨_, ?_, fs, qs.dropLast, _, rfl, rfl, base, eF1, by rw [upd_same, mapd], nd, by omega, by omega, r1, fun i hi => r2 i (dsub i hi), fun i hi => ?_, fun i hi w hw => ?_⟩
      · omega
      · rcases c1 i hi with z | z
        · exact .inl z
        · rcases split i z with w | w
          · exact .inr w
          · exact .inl (by rw [w]; exact hy)
      · rcases c2 i hi w hw with z | z
        · exact .inl z
        · rcases split w z with u | u
          · exact .inr u
          · exact .inl (by rw [u]; exact hy)
/-! signs, pairs of a text and an int -/
theorem fo_all : ∀ (l : List Nat), fo l = -1 → ∀ c ∈ l, c ∈ letters
  | [], _, _, h => nomatch h
  | x :: r, h, c, hc => by
    have g := fo_ge r
    unfold fo at h
    by_cases hx : x ∈ letters
    · rw [if_pos hx] at h
      have e : fo r = -1 := by split at h <;> omega
      rcases List.mem_cons.mp hc with q | q
      · rw [q]; exact hx
      · exact fo_all r e c q
    · rw [if_neg hx] at h
      cases h
theorem shaped_si {z : Str} (i : Int) (h : PyData.strOk z = true) : SeqAt.shaped (.tuple [.str z, .int i]) = true := by simp [SeqAt.shaped, PyData.canLay0, PyData.canLayAll0, PyData.depth, PyData.depthAll, h]
theorem eqv_si (z z' : Str) (i i' : Int) : PyData.eqv (.tuple [.str z, .int i]) (.tuple [.str z', .int i']) = decide (z = z' ∧ i = i') := by
  by_cases h1 : z = z'
  · by_cases h2 : i = i'
    · subst h1 h2; simp [PyData.eqv, PyData.eqvAll]
    · subst h1; simp [PyData.eqv, PyData.eqvAll, h2]
  · simp [PyData.eqv, PyData.eqvAll, h1]
theorem siData {H : Hp} {a : Addr} {z : Str} {i : Int} (h : H a = some (.tup [.str z, .int i])) : Dp K H (.ref a) (.tuple [.str z, .int i]) := .tup (SqT.of h) (.cons (.str _) (.cons (.int _) .nil))
/-! what a lot's parts are worth -/
inductive Due (n : Int) (last : List Int) (ms : List Mv) : Str → Int → Prop
  | bad : ¬ GoodLot n last ms → Due n last ms "bad" 0
  | useless {i : Int} : GoodLot n last ms → 0 ≤ i → i < n → (∀ j, 0 ≤ j → j < i → Rch (fwE ms) [0] j ∧ Rch (bwE ms) last j) → ¬ (Rch (fwE ms) [0] i ∧ Rch (bwE ms) last i) → Due n last ms "useless" i
  | lot : GoodLot n last ms → (∀ i, 0 ≤ i → i < n → Rch (fwE ms) [0] i ∧ Rch (bwE ms) last i) → Due n last ms "lot" n
theorem Due.uniq {n : Int} {last : List Int} {ms : List Mv} {s t : Str} {u v : Int} (a : Due n last ms s u) (b : Due n last ms t v) : s = t ∧ u = v := by
  cases a with
  | bad g => cases b with
    | bad _ => exact ⟨rfl, rfl⟩
    | useless g' => exact absurd g' g
    | lot g' => exact absurd g' g
  | useless g i0 i1 lo no => cases b with
    | bad g' => exact absurd g g'
    | useless g' j0 j1 lo' no' =>
      refine ⟨rfl, ?_⟩
      rcases Int.lt_trichotomy u v with z | z | z
      · exact absurd (lo' u i0 z) no
      · exact z
      · exact absurd (lo v j0 z) no'
    | lot _ al => exact absurd (al u i0 i1) no
  | lot g al => cases b with
    | bad g' => exact absurd g g'
    | useless _ j0 j1 _ no' => exact absurd (al v j0 j1) no'
    | lot _ _ => exact ⟨rfl, rfl⟩
theorem tDSetd_mono {i j : Nat} {σ : L2.St} {H : Hp} {Q Q' : VK} (h : tDSetd (tVar i) (tVar j) (tLst tNil) σ H Q) (k : ∀ v H', Q v H' → Q' v H') : tDSetd (tVar i) (tVar j) (tLst tNil) σ H Q' := by
  obtain ⟨x, hx, a, ex, ia, y, hy, zl, r⟩ := h
  refine ⟨x, hx, a, ex, ia, y, hy, zl, fun p hp => ?_⟩
  obtain ⟨kvs, kk, e1, e2, e3, e4, e5⟩ := r p hp
  exact ⟨kvs, kk, e1, e2, e3, fun v hv => k _ _ (e4 v hv), fun hv => k _ _ (e5 hv)⟩
theorem rAppend_mono {x : V} {vs : List V} {H : Hp} {Q Q' : VK} (h : rAppend x vs H Q) (k : ∀ v H', Q v H' → Q' v H') : rAppend x vs H Q' := by
  obtain ⟨l, xs, y, e1, e2, e3, e4, e5⟩ := h
  exact ⟨l, xs, y, e1, e2, e3, e4, k _ _ e5⟩
/-- near = d.setdefault(s, []), ahead of near.append(g) -/
theorem dl_near {i j : Nat} {d : Addr} {ks : List DLE} {s : Int} (g : Int) {σ : L2.St} {H : Hp} (h1 : σ[i]? = some (some (.ref d))) (h2 : σ[j]? = some (some (.int s))) (hD : DL H d ks) (hn : ks.length + dlTot ks < 1000000) :
    tDSetd (tVar i) (tVar j) (tLst tNil) σ H fun x H1 => tyV K "list" x H1 ∧ rAppend x [.int g] H1 fun _ H' => ∃ ks', DL H' d ks' ∧ (∀ x, gr ks' x = if x = s then gr ks x ++ [g] else gr ks x) ∧ Frm (d :: dlA ks) H H' (d :: dlA ks') ∧ ks'.length ≤ ks.length + 1 ∧ dlTot ks' = dlTot ks + 1 :=
  dl_push (td := tVar i) (ty := tVar j) (tg := fun _ H Q => Q (.int g) H) (d := d) (ks := ks) (s := s) (g := g) (σ := σ) (D := { nx := fun _ H' => ∃ ks', DL H' d ks' ∧ (∀ x, gr ks' x = if x = s then gr ks x ++ [g] else gr ks x) ∧ Frm (d :: dlA ks) H H' (d :: dlA ks') ∧ ks'.length ≤ ks.length + 1 ∧ dlTot ks' = dlTot ks + 1, rt := fun _ _ => True })
    (fun _ _ w => ⟨_, h1, w⟩) (fun _ _ w => ⟨_, h2, w⟩) (fun _ _ w => w) hD hn fun _ ks' a b c e f => ⟨ks', a, b, c, e, f⟩
theorem sg_iff {z : Str} : IsSg z ↔ z.length = 1 ∧ fo z.cps.toList = -1 := by
  constructor
  · rintro ⟨c, hc, rfl⟩
    refine ⟨by rw [tx_len]; rfl, fo_none _ fun j x e => ?_⟩
    rw [tx_toList] at e
    have := List.mem_of_getElem? e
    rw [List.mem_singleton.mp this]
    exact hc
  · rintro ⟨hl, hf⟩
    obtain ⟨c, hc⟩ : ∃ c, z = tx [c] := by
      rw [← tx_self z] at hl ⊢
      rw [tx_len] at hl
      generalize z.cps.toList = l at hl
      match l, hl with
      | [c], _ => exact ⟨c, rfl⟩
    subst hc
    refine ⟨c, ?_, rfl⟩
    by_cases q : c ∈ letters
    · exact q
    · rw [tx_toList] at hf
      have := fo_at [c] 0 c (fun j x hj _ => absurd hj (Nat.not_lt_zero _)) rfl q
      omega
/-! _law_due_of -/
theorem due_of_ok {la ma : Addr} {n : Int} {last : List Int} {ms : List Mv} {us : List Addr} {H : Hp} {Q : VK} {E : XK}
    (hla : H la = some (.lst (last.map V.int))) (hma : H ma = some (.lst (us.map V.ref))) (hus : MvsAt H us ms) (hz : ∀ m ∈ ms, m.2.1.cps.size ≤ 1000) (z1 : last.length ≤ 1000) (z2 : ms.length ≤ 1000)
    (h : ∀ p s v H', Due n last ms s v → Same H H' → H' p = some (.tup [.str s, .int v]) → Q (.ref p) H') : sp_law_due_of K [.int n, .ref la, .ref ma] H Q E := by
  refine ⟨rfl, ?_⟩
  unfold t_law_due_of
  have bad : ∀ {H1 : Hp} {p : Addr}, Same H H1 → H1 p = none → ¬ GoodLot n last ms → Q (.ref p) (upd H1 p (.tup [.str "bad", .int 0])) := fun s hp g => h _ _ _ _ (.bad g) (s.trans (Same.new hp)) upd_same
  walk_at "sq"
  by_cases g1 : 1 ≤ n
  rotate_left
  · walk_at "st"
    intro p hp
    exact bad (Same.refl _) hp fun g => g1 g.n1
  by_cases g2 : n ≤ 40
  rotate_left
  · walk_at "st"
    intro p hp
    exact bad (Same.refl _) hp fun g => g2 g.n2
  walk_at "st"
  refine ⟨la, rfl, ⟨_, .of hla⟩, fun T1 hT1 => ?_⟩
  refine lcA (walk_list (K := K) (a := la) (xs := last.map V.int)) (last.map fun x => if decide (x < 0 ∨ n ≤ x) = true then some (.inl (V.int x)) else none) hT1 (fun H8 s8 => .of (s8 _ _ hla)) (by rw [List.length_map, List.length_map]) (by rw [List.length_map]; omega) ?_ ?_
  · rintro i x ob H8 H9 C hi s8 ⟨rfl, hx⟩ hb hC
    rw [List.length_map] at hi
    rw [List.getElem?_map, List.getElem?_eq_getElem hi] at hx hb
    cases hx
    have hb : ob = if decide (last[i] < 0 ∨ n ≤ last[i]) = true then some (.inl (V.int last[i])) else none := (Option.some.inj hb).symm
    generalize last[i] = x at hb ⊢
    walk_at "st"
    refine ⟨rfl, ?_⟩
    by_cases c1 : x < 0
    · rw [if_pos (decide_eq_true (.inl c1))] at hb
      subst hb
      walk_at "st"
      exact hC _ _ (Same.refl _) ⟨_, rfl, rfl⟩
    by_cases c2 : n ≤ x
    · rw [if_pos (decide_eq_true (.inr c2))] at hb
      subst hb
      walk_at "st"
      exact hC _ _ (Same.refl _) ⟨_, rfl, rfl⟩
    · rw [decide_eq_false (fun z => z.elim c1 c2)] at hb
      subst hb
      walk_at "st"
      exact hC _ none (Same.refl _) rfl
  rintro H8 ys8 s8 eT it8
  have ey8 : ys8 = (last.filter fun x => decide (x < 0 ∨ n ≤ x)).map V.int := by
    have e : (last.map fun x => if decide (x < 0 ∨ n ≤ x) = true then some (Sum.inl (V.int x) : V ⊕ List V) else none).filterMap id = ((last.filter fun x => decide (x < 0 ∨ n ≤ x)).map V.int).map Sum.inl := by
      rw [fm_if last (fun x => decide (x < 0 ∨ n ≤ x)) fun x => (Sum.inl (V.int x) : V ⊕ List V), List.map_map]; rfl
    rw [e] at it8
    exact items_v it8
  subst ey8
  walk_at "st"
  intro N0 hN0
  have sN := Same.new (o := .lst []) hN0
  walk_at "st"
  refine neA_intsNil (sN _ _ eT) upd_same ?_
  have s09 := s8.trans sN
  generalize upd H8 N0 (.lst []) = H0 at s09 ⊢
  clear eT it8 sN hN0 s8 hT1
  walk_at "st"
  by_cases pl : ∀ s ∈ last, 0 ≤ s ∧ s < n
  rotate_left
  · refine rd_iteB ?_ ?_
    · cases q : (last.filter fun x => decide (x < 0 ∨ n ≤ x)) with
      | cons _ _ => rfl
      | nil =>
        exfalso
        refine pl fun s hs => ?_
        have := List.filter_eq_nil_iff.mp q s hs
        simp at this
        omega
    walk_at "st"
    intro p hp
    exact bad s09 hp fun g => pl g.la
  refine rd_iteC ?_ ?_
  · have : (last.filter fun x => decide (x < 0 ∨ n ≤ x)) = [] := List.filter_eq_nil_iff.mpr fun s hs q => by
      have := pl s hs
      have := of_decide_eq_true q
      omega
    rw [this]; rfl
  walk_at "st"
  walk_at "sq"
  walk_at "st"
  intro tT hT
  have sT := Same.new (o := .dT []) hT
  walk_at "st"
  walk_at "sq"
  walk_at "st"
  intro d1 hd1
  have sD1 := Same.new (o := .dK []) hd1
  walk_at "st"
  walk_at "sq"
  walk_at "st"
  intro d2 hd2
  have sD2 := Same.new (o := .dK []) hd2
  walk_at "st"
  have sTT : upd (upd (upd H0 tT (.dT [])) d1 (.dK [])) d2 (.dK []) tT = some (.dT (tabK [])) := sD2 _ _ (sD1 _ _ upd_same)
  have D1 : DL (upd (upd (upd H0 tT (.dT [])) d1 (.dK [])) d2 (.dK [])) d1 [] := ⟨sD2 _ _ upd_same, fun _ h => (nomatch h), List.Pairwise.nil, List.Pairwise.nil⟩
  have D2 : DL (upd (upd (upd H0 tT (.dT [])) d1 (.dK [])) d2 (.dK [])) d2 [] := ⟨upd_same, fun _ h => (nomatch h), List.Pairwise.nil, List.Pairwise.nil⟩
  have d2d1 : d2 ≠ d1 := fun q => by rw [q, upd_same] at hd2; cases hd2
  have k0 : Same H (upd (upd (upd H0 tT (.dT [])) d1 (.dK [])) d2 (.dK [])) := ((s09.trans sT).trans sD1).trans sD2
  have fresh : ∀ {H' : Hp} {b : Addr}, Same H H' → H' b = none → H b = none := fun {H' b} s e => by
    cases w : H b with
    | none => rfl
    | some o => rw [s _ _ w] at e; cases e
  have hTH : H tT = none := fresh s09 hT
  have hd1H : H d1 = none := fresh (s09.trans sT) hd1
  have hd2H : H d2 = none := fresh ((s09.trans sT).trans sD1) hd2
  generalize upd (upd (upd H0 tT (.dT [])) d1 (.dK [])) d2 (.dK []) = Hs at sTT D1 D2 k0 ⊢
  clear sT sD1 sD2 hT hd1 hd2 s09
  walk_at "sq"
  walk_at "st"
  refine ⟨ma, rfl, ⟨_, .of (k0 _ _ hma)⟩, ?_⟩
  have ml := hus.l
  refine for_list (K := K) (a := ma) (xs := us.map V.ref) (fun i σ H3 => (∀ m ∈ ms.take i, MvOk n m) ∧ Det (ms.take i) ∧ ∃ (ks1 ks2 : List DLE) (tab : List Mv) (v9 v10 v11 v12 : Option V), σ = [some (.int n), some (.ref la), some (.ref ma), some (.ref tT), some (.ref d1), some (.ref d2), none, none, none, v9, v10, v11, v12] ∧
      DL H3 d1 ks1 ∧ DL H3 d2 ks2 ∧ H3 tT = some (.dT (tabK tab)) ∧ TabOf (ms.take i) tab ∧ Same H H3 ∧ (∀ b ∈ dlA ks1, H b = none) ∧ (∀ b ∈ dlA ks2, H b = none) ∧
      (∀ b ∈ d1 :: dlA ks1, b ∉ d2 :: dlA ks2) ∧ (∀ x y, y ∈ gr ks1 x ↔ ∃ m ∈ ms.take i, m.1 = x ∧ m.2.2 = y) ∧ (∀ x y, y ∈ gr ks2 x ↔ ∃ m ∈ ms.take i, m.2.2 = x ∧ m.1 = y) ∧ ks1.length ≤ i ∧ ks2.length ≤ i ∧ dlTot ks1 = i ∧ dlTot ks2 = i ∧ tab.length ≤ i)
    ⟨fun m hm => (by rw [List.take_zero] at hm; cases hm), fun m hm => (by rw [List.take_zero] at hm; cases hm), [], [], [], none, none, none, none, rfl, D1, D2, sTT, by rw [List.take_zero]; exact TabOf.nil, k0, fun _ h => (nomatch h), fun _ h => (nomatch h), fun b hb hb2 => d2d1 (by rw [← List.mem_singleton.mp hb2, List.mem_singleton.mp hb]), fun x y => ⟨fun q => (nomatch q), fun ⟨m, hm, _⟩ => by rw [List.take_zero] at hm; cases hm⟩, fun x y => ⟨fun q => (nomatch q), fun ⟨m, hm, _⟩ => by rw [List.take_zero] at hm; cases hm⟩, Nat.le_refl _, Nat.le_refl _, rfl, rfl, Nat.le_refl _⟩
    (fun i σ H3 _ q => by obtain ⟨_, _, _, _, _, _, _, _, _, _, _, _, _, _, k3, _⟩ := q; exact .of (k3 _ _ hma)) ?_ ?_
  · rintro i x σ H3 hi ⟨pm, pd, ks1, ks2, tab, v9, v10, v11, v12, rfl, E1, E2, eT, tb, k3, w1, w2, dj, e1, e2, c1, c2, t1, t2, tl⟩
    obtain ⟨u, m, rfl, hm, hu2, eu⟩ := getM hus hi
    obtain ⟨lt, em⟩ := List.getElem?_eq_some_iff.mp hm
    have etk : ms.take (i + 1) = ms.take i ++ [m] := by rw [List.take_succ_eq_append_getElem lt, em]
    have hmm := List.mem_of_getElem? hm
    have hz' := hz m hmm
    have eu3 := k3 _ _ eu
    obtain ⟨m1, z, m3⟩ := m
    dsimp only at eu3 hz'
    refine rd_gtup eu3 rfl ?_
    by_cases a1 : 0 ≤ m1
    rotate_left
    · walk_at "st"
      walk_at "sq"
      walk_at "st"
      intro p hp
      exact bad k3 hp fun g => a1 (g.mv _ hmm).a.1
    by_cases a2 : m1 < n
    rotate_left
    · walk_at "st"
      walk_at "sq"
      walk_at "st"
      intro p hp
      exact bad k3 hp fun g => a2 (g.mv _ hmm).a.2
    by_cases b1 : 0 ≤ m3
    rotate_left
    · walk_at "st"
      walk_at "sq"
      walk_at "st"
      intro p hp
      exact bad k3 hp fun g => b1 (g.mv _ hmm).b.1
    by_cases b2 : m3 < n
    rotate_left
    · walk_at "st"
      walk_at "sq"
      walk_at "st"
      intro p hp
      exact bad k3 hp fun g => b2 (g.mv _ hmm).b.2
    by_cases s1 : z.length = 1
    rotate_left
    · walk_at "st"
      walk_at "sq"
      walk_at "st"
      refine lenA_str (small2 (by have : z.length ≤ 1000 := hz'; omega)) ?_
      walk_at "st"
      intro p hp
      exact bad k3 hp fun g => s1 (sg_iff.mp (g.mv _ hmm).s).1
    by_cases s2 : fo z.cps.toList = -1
    rotate_left
    · walk_at "st"
      walk_at "sq"
      walk_at "st"
      refine lenA_str (small2 (by have : z.length ≤ 1000 := hz'; omega)) ?_
      walk_at "st"
      have ez := tx_self z
      rw [← ez]
      refine first_odd_ok (by have : z.length ≤ 1000 := hz'; rw [← ez, tx_len] at this; omega) ?_
      have f0 : 0 ≤ fo z.cps.toList := by have := fo_ge z.cps.toList; omega
      walk_at "st"
      intro p hp
      exact bad k3 hp fun g => s2 (sg_iff.mp (g.mv _ hmm).s).2
    have ss : IsSg z := sg_iff.mpr ⟨s1, s2⟩
    have mok : MvOk n (m1, z, m3) := ⟨⟨a1, a2⟩, ⟨b1, b2⟩, ss⟩
    obtain ⟨c, hc, es⟩ := ss
    subst es
    rw [tx_toList] at s2
    walk_at "st"
    walk_at "sq"
    walk_at "st"
    refine lenA_str (by rw [tx_len]; exact small2 (by simp)) ?_
    rw [tx_len]
    walk_at "st"
    refine first_odd_ok (by simp) ?_
    rw [s2]
    walk_at "st"
    walk_at "sq"
    walk_at "st"
    refine ⟨tT, rfl, .inr ⟨_, .inl eT⟩, ?_⟩
    walk_at "st"
    intro p hp
    have sp := Same.new (o := .tup [.int m1, .str (tx [c])]) hp
    walk_at "st"
    refine ⟨_, DGet.t (k := [.inl m1, .inr (tx [c])]) (sp _ _ eT) upd_same, ?_⟩
    have hval : (∃ g', (m1, tx [c], g') ∈ tab ∧ g' ≠ m3 ∧ (valV (tabK tab) [.inl m1, .inr (tx [c])]).getD (.int m3) = .int g') ∨ ((valV (tabK tab) [.inl m1, .inr (tx [c])]).getD (.int m3) = .int m3 ∧ ∀ t ∈ tab, mvKey t = mvKey (m1, tx [c], m3) → t.2.2 = m3) := by
      rcases tab_val tab m1 (tx [c]) with ⟨q, nk⟩ | ⟨g', hg', q⟩
      · exact .inr ⟨by rw [q]; rfl, fun t ht e => absurd e (nk t ht)⟩
      · by_cases eg : g' = m3
        · refine .inr ⟨by rw [q, eg]; rfl, fun t ht e => ?_⟩
          rw [← eg]
          exact pd t ((tb.mem t).mp ht) _ ((tb.mem _).mp hg') e
        · exact .inl ⟨g', hg', eg, by rw [q]; rfl⟩
    rcases hval with ⟨g', hg', eg, eV⟩ | ⟨eV, hdet⟩
    · rw [eV]
      walk_at "st"
      intro p2 hp2
      exact bad (k3.trans sp) hp2 fun g => eg (g.de _ (List.mem_of_mem_take ((tb.mem _).mp hg')) _ hmm rfl)
    rw [eV]
    walk_at "st"
    walk_at "sq"
    walk_at "st"
    intro q hq
    have sq := Same.new (o := .tup [.int m1, .str (tx [c])]) hq
    have ltz : i < 1000 := by omega
    refine ⟨tT, _, rfl, DPut.t (k := [.inl m1, .inr (tx [c])]) (sq _ _ (sp _ _ eT)) upd_same (by unfold tabK; rw [List.length_map, sizeLine_eq]; omega), ?_⟩
    rw [show putK (tabK tab) [.inl m1, .inr (tx [c])] (.int m3) = tabK (insM tab (m1, tx [c], m3)) from tab_put (m := (m1, tx [c], m3)) tb.nd hdet]
    generalize hH6 : upd (upd (upd H3 p (.tup [.int m1, .str (tx [c])])) q (.tup [.int m1, .str (tx [c])])) tT (.dT (tabK (insM tab (m1, tx [c], m3)))) = H6
    have st6 : ∀ b o, b ≠ tT → H3 b = some o → H6 b = some o := fun b o nb e => by rw [← hH6, upd_ne nb]; exact sq _ _ (sp _ _ e)
    have eT6 : H6 tT = some (.dT (tabK (insM tab (m1, tx [c], m3)))) := by rw [← hH6, upd_same]
    have n1T : tT ∉ d1 :: dlA ks1 := E1.out eT (fun _ z => nomatch z) (fun _ z => nomatch z)
    have n2T : tT ∉ d2 :: dlA ks2 := E2.out eT (fun _ z => nomatch z) (fun _ z => nomatch z)
    have F1 : DL H6 d1 ks1 := E1.keep fun b o hb e => st6 b o (fun z => n1T (z ▸ hb)) e
    have F2 : DL H6 d2 ks2 := E2.keep fun b o hb e => st6 b o (fun z => n2T (z ▸ hb)) e
    have k36 : Same H H6 := fun b o e => st6 b o (ne_of_none e hTH) (k3 b o e)
    have a1' : ∀ b ∈ d1 :: dlA ks1, H b = none := fun b hb => (List.mem_cons.mp hb).elim (fun z => z ▸ hd1H) (w1 b)
    have a2' : ∀ b ∈ d2 :: dlA ks2, H b = none := fun b hb => (List.mem_cons.mp hb).elim (fun z => z ▸ hd2H) (w2 b)
    clear hH6 sq sp hp hq
    walk_at "st"
    walk_at "sq"
    refine rd_asg ?_
    refine (tDSetd_mono (dl_near (K := K) m3 rfl rfl F1 (by omega)) fun x1 HA qA => ?_)
    walk_at "st"
    walk_at "sq"
    walk_at "st"
    refine ⟨qA.1, ?_⟩
    walk_at "st"
    refine rAppend_mono qA.2 fun _ H7 good1 => ?_
    obtain ⟨ks1', G1, r1, f1, l1, s1'⟩ := good1
    walk_at "st"
    have G2 : DL H7 d2 ks2 := F2.keep fun b o hb e => f1.keep b o (fun z => dj b z hb) e
    walk_at "sq"
    refine rd_asg ?_
    refine (tDSetd_mono (dl_near (K := K) m1 rfl rfl G2 (by omega)) fun x2 HB qB => ?_)
    walk_at "st"
    refine ⟨qB.1, ?_⟩
    walk_at "st"
    refine rAppend_mono qB.2 fun _ H8 good2 => ?_
    obtain ⟨ks2', J2, r2, f2, l2, s2'⟩ := good2
    walk_at "st"
    have dA : ∀ b ∈ d2 :: dlA ks2, b ∉ d1 :: dlA ks1' := f1.disj (fun b hb => F2.there b hb) fun b hb z => dj b z hb
    have dB : ∀ b ∈ d1 :: dlA ks1', b ∉ d2 :: dlA ks2' := f2.disj (fun b hb => G1.there b hb) fun b hb z => dA b z hb
    have J1 : DL H8 d1 ks1' := G1.keep fun b o hb e => f2.keep b o (fun z => dA b z hb) e
    have up1 : ∀ b o, b ∉ d1 :: dlA ks1 → H6 b = some o → H7 b = some o := fun b o u e => f1.keep b o u e
    have k37 : Same H H7 := fun b o e => up1 b o (fun u => by have := a1' b u; rw [e] at this; cases this) (k36 b o e)
    have b1' : ∀ b ∈ d1 :: dlA ks1', H b = none := fun b hb => (f1.from_ b hb).elim (a1' b) fun z => fresh k36 z
    have b2' : ∀ b ∈ d2 :: dlA ks2', H b = none := fun b hb => (f2.from_ b hb).elim (a2' b) fun z => fresh k37 z
    have up : ∀ b o, b ∉ d1 :: dlA ks1 → b ∉ d2 :: dlA ks2 → H6 b = some o → H8 b = some o := fun b o u v e => f2.keep b o v (f1.keep b o u e)
    refine ⟨fun t ht => ?_, fun t ht t' ht' e => ?_, ks1', ks2', insM tab (m1, tx [c], m3), _, _, _, _, rfl, J1, J2, up _ _ n1T n2T eT6, by rw [etk]; exact tb.step (m := (m1, tx [c], m3)) hdet, fun b o e => ?_, fun b hb => b1' b (List.mem_cons_of_mem _ hb), fun b hb => b2' b (List.mem_cons_of_mem _ hb), dB, fun x y => ?_, fun x y => ?_, by omega, by omega, by omega, by omega, ?_⟩
    · rw [etk, List.mem_append, List.mem_singleton] at ht
      exact ht.elim (pm t) fun e => e ▸ mok
    · rw [etk, List.mem_append, List.mem_singleton] at ht ht'
      rcases ht with ht | ht <;> rcases ht' with ht' | ht'
      · exact pd t ht t' ht' e
      · subst ht'
        exact hdet t ((tb.mem t).mpr ht) e
      · subst ht
        exact (hdet t' ((tb.mem t').mpr ht') e.symm).symm
      · rw [ht, ht']
    · exact up b o (fun u => by have := a1' b u; rw [e] at this; cases this) (fun u => by have := a2' b u; rw [e] at this; cases this) (k36 b o e)
    · rw [r1, etk]
      by_cases w : x = m1
      · rw [if_pos w, List.mem_append, e1, List.mem_singleton]
        constructor
        · rintro (⟨m, hm, q⟩ | q)
          · exact ⟨m, List.mem_append_left _ hm, q⟩
          · exact ⟨_, List.mem_append_right _ List.mem_cons_self, w.symm, q.symm⟩
        · rintro ⟨m, hm, q1, q2⟩
          rcases List.mem_append.mp hm with z | z
          · exact .inl ⟨m, z, q1, q2⟩
          · rw [List.mem_singleton.mp z] at q2
            exact .inr q2.symm
      · rw [if_neg w, e1]
        constructor
        · rintro ⟨m, hm, q⟩
          exact ⟨m, List.mem_append_left _ hm, q⟩
        · rintro ⟨m, hm, q1, q2⟩
          rcases List.mem_append.mp hm with z | z
          · exact ⟨m, z, q1, q2⟩
          · rw [List.mem_singleton.mp z] at q1
            exact absurd q1.symm w
    · rw [r2, etk]
      by_cases w : x = m3
      · rw [if_pos w, List.mem_append, e2, List.mem_singleton]
        constructor
        · rintro (⟨m, hm, q⟩ | q)
          · exact ⟨m, List.mem_append_left _ hm, q⟩
          · exact ⟨_, List.mem_append_right _ List.mem_cons_self, w.symm, q.symm⟩
        · rintro ⟨m, hm, q1, q2⟩
          rcases List.mem_append.mp hm with z | z
          · exact .inl ⟨m, z, q1, q2⟩
          · rw [List.mem_singleton.mp z] at q2
            exact .inr q2.symm
      · rw [if_neg w, e2]
        constructor
        · rintro ⟨m, hm, q⟩
          exact ⟨m, List.mem_append_left _ hm, q⟩
        · rintro ⟨m, hm, q1, q2⟩
          rcases List.mem_append.mp hm with z | z
          · exact ⟨m, z, q1, q2⟩
          · rw [List.mem_singleton.mp z] at q1
            exact absurd q1.symm w
    · unfold insM
      split
      · omega
      · rw [List.length_append, List.length_singleton]; omega
  · rintro σ H3 ⟨pm, pd, ks1, ks2, tab, v9, v10, v11, v12, rfl, E1, E2, eT, tb, k3, w1, w2, dj, e1, e2, c1, c2, t1, t2, tl⟩
    rw [List.length_map, ml, List.take_length] at tb e1 e2 pm pd
    rw [List.length_map, ml] at c1 c2 t1 t2 tl
    have g : GoodLot n last ms := ⟨g1, g2, pl, pm, pd⟩
    walk_at "sq"
    walk_at "st"
    intro r hr
    have sr := Same.new (o := .lst [V.int 0]) hr
    walk_at "st"
    refine spread_ok (ss := [0]) (ks := ks1) (.of upd_same) (E1.same sr) (by rw [t1]; show 1 + ms.length ≤ 1000000; omega) fun p1 H6 fs1 s6 hp1 ep1 m1 => ?_
    have s36 := sr.trans s6
    walk_at "st"
    walk_at "sq"
    walk_at "st"
    refine spread_ok (ss := last) (ks := ks2) (.of (s36 _ _ (k3 _ _ hla))) (E2.same s36) (by rw [t2]; omega) fun p2 H7 fs2 s7 hp2 ep2 m2 => ?_
    have ep1' := s7 _ _ ep1
    have k7 : Same H H7 := (k3.trans s36).trans s7
    have q1 : ∀ i : Int, (i ∈ fs1) ↔ Rch (fwE ms) [0] i := fun i => (m1 _).trans ⟨fun u => u.mono (fun x y hy => mem_fwE.mpr ((e1 x y).mp hy)) fun _ h => h, fun u => u.mono (fun x y hy => (e1 x y).mpr (mem_fwE.mp hy)) fun _ h => h⟩
    have q2 : ∀ i : Int, (i ∈ fs2) ↔ Rch (bwE ms) last i := fun i => (m2 _).trans ⟨fun u => u.mono (fun x y hy => mem_bwE.mpr ((e2 x y).mp hy)) fun _ h => h, fun u => u.mono (fun x y hy => (e2 x y).mpr (mem_bwE.mp hy)) fun _ h => h⟩
    clear m1 m2 s36 s6 sr hr ep1 hp1 s7 e1 e2 E1 E2 eT tb
    walk_at "st"
    walk_at "sq"
    walk_at "st"
    refine ⟨n, rfl, by omega, by omega, fun D hD => ?_⟩
    refine lcA (walk_range (lo := 0) (n := n.toNat)) ((List.range n.toNat).map fun (i : Nat) => if decide (¬ ((i : Int) ∈ fs1 ∧ (i : Int) ∈ fs2)) = true then some (.inl (V.int (i : Int))) else none) hD (fun _ _ => trivial) (by rw [List.length_map, List.length_range]) (by omega) ?_ ?_
    · rintro i x ob H8 H9 C hi s8 ⟨rfl, rfl⟩ hb hC
      rw [List.getElem?_map, List.getElem?_range hi] at hb
      have hb : ob = if decide (¬ ((i : Int) ∈ fs1 ∧ (i : Int) ∈ fs2)) = true then some (.inl (V.int (i : Int))) else none := (Option.some.inj hb).symm
      show gName 9 (V.int (0 + (i : Int))) _ _ _
      rw [Int.zero_add]
      walk_at "st"
      refine ⟨rfl, ?_⟩
      walk_at "st"
      refine notInA_ints (.of (s8 _ _ ep1')) ?_
      walk_at "st"
      by_cases i1 : (i : Int) ∈ fs1
      rotate_left
      · rw [if_pos (decide_eq_true (p := ¬ ((i : Int) ∈ fs1 ∧ (i : Int) ∈ fs2)) fun z => i1 z.1)] at hb
        subst hb
        refine rd_iteB (by rw [decide_eq_false i1]; rfl) ?_
        walk_at "st"
        exact hC _ _ (Same.refl _) ⟨_, rfl, rfl⟩
      refine rd_iteC (by rw [decide_eq_true i1]; rfl) ?_
      walk_at "st"
      refine notInA_ints (.of (s8 _ _ ep2)) ?_
      walk_at "st"
      by_cases i2 : (i : Int) ∈ fs2
      rotate_left
      · rw [if_pos (decide_eq_true (p := ¬ ((i : Int) ∈ fs1 ∧ (i : Int) ∈ fs2)) fun z => i2 z.2)] at hb
        subst hb
        refine rd_iteB (by rw [decide_eq_false i2]; rfl) ?_
        walk_at "st"
        exact hC _ _ (Same.refl _) ⟨_, rfl, rfl⟩
      rw [decide_eq_false (fun z => z ⟨i1, i2⟩)] at hb
      subst hb
      refine rd_iteC (by rw [decide_eq_true i2]; rfl) ?_
      exact hC _ none (Same.refl _) rfl
    rintro H8 ys8 s8 eD it8
    have ey8 : ys8 = (((List.range n.toNat).filter fun (i : Nat) => decide (¬ ((i : Int) ∈ fs1 ∧ (i : Int) ∈ fs2))).map fun (i : Nat) => (i : Int)).map V.int := by
      have e : ((List.range n.toNat).map fun (i : Nat) => if decide (¬ ((i : Int) ∈ fs1 ∧ (i : Int) ∈ fs2)) = true then some (Sum.inl (V.int (i : Int)) : V ⊕ List V) else none).filterMap id = ((((List.range n.toNat).filter fun (i : Nat) => decide (¬ ((i : Int) ∈ fs1 ∧ (i : Int) ∈ fs2))).map fun (i : Nat) => (i : Int)).map V.int).map Sum.inl := by
        rw [fm_if (List.range n.toNat) (fun (i : Nat) => decide (¬ ((i : Int) ∈ fs1 ∧ (i : Int) ∈ fs2))) fun (i : Nat) => (Sum.inl (V.int (i : Int)) : V ⊕ List V), List.map_map, List.map_map]; rfl
      rw [e] at it8
      exact items_v it8
    subst ey8
    have up : (List.range n.toNat).Pairwise (· < ·) := List.pairwise_lt_range
    have upf := up.filter fun (i : Nat) => decide (¬ ((i : Int) ∈ fs1 ∧ (i : Int) ∈ fs2))
    have mf : ∀ j : Nat, j ∈ (List.range n.toNat).filter (fun (i : Nat) => decide (¬ ((i : Int) ∈ fs1 ∧ (i : Int) ∈ fs2))) ↔ j < n.toNat ∧ ¬ ((j : Int) ∈ fs1 ∧ (j : Int) ∈ fs2) := fun j => by
      rw [List.mem_filter, List.mem_range]
      exact ⟨fun z => ⟨z.1, of_decide_eq_true z.2⟩, fun z => ⟨z.1, decide_eq_true z.2⟩⟩
    generalize (List.range n.toNat).filter (fun (i : Nat) => decide (¬ ((i : Int) ∈ fs1 ∧ (i : Int) ∈ fs2))) = L at upf mf eD
    clear it8
    walk_at "st"
    walk_at "sq"
    walk_at "st"
    intro N0 hN0
    have sN := Same.new (o := .lst []) hN0
    walk_at "st"
    refine neA_intsNil (sN _ _ eD) upd_same ?_
    have eD9 := sN _ _ eD
    have s79 := (k7.trans s8).trans sN
    generalize upd H8 N0 (.lst []) = H9 at eD9 s79 ⊢
    walk_at "st"
    cases L with
    | nil =>
      refine rd_iteC rfl ?_
      walk_at "st"
      intro p hp
      refine h p _ _ _ (.lot g fun i i0 i1 => ?_) (s79.trans (Same.new hp)) upd_same
      have := mf i.toNat
      have ei : (i.toNat : Int) = i := by omega
      rw [ei] at this
      by_cases c : i ∈ fs1 ∧ i ∈ fs2
      · exact ⟨(q1 i).mp c.1, (q2 i).mp c.2⟩
      · exact absurd (this.mpr ⟨by omega, c⟩) (by simp)
    | cons j0 L =>
      refine rd_iteB rfl ?_
      walk_at "st"
      refine ixA_lst (.of eD9) (atI_nat (j := 0) rfl) ?_
      walk_at "st"
      intro p hp
      obtain ⟨j1, j2⟩ := (mf j0).mp List.mem_cons_self
      refine h p _ _ _ (.useless (i := (j0 : Int)) g (by omega) (by omega) (fun i i0 i1 => ?_) fun z => j2 ⟨(q1 _).mpr z.1, (q2 _).mpr z.2⟩) (s79.trans (Same.new hp)) upd_same
      have := mf i.toNat
      have ei : (i.toNat : Int) = i := by omega
      rw [ei] at this
      by_cases c : i ∈ fs1 ∧ i ∈ fs2
      · exact ⟨(q1 i).mp c.1, (q2 i).mp c.2⟩
      · exfalso
        have hm := this.mpr ⟨by omega, c⟩
        rcases List.mem_cons.mp hm with w | w
        · omega
        · have := (List.pairwise_cons.mp upf).1 _ w
          omega
/-! Lot.every, Lot.only with what they refuse -/
theorem lot_every_out {P : Program} {mg : Str → Option Value} (T : Txt P K mg) {t : List Nat} {H : Hp} {Q : VK} {E : XK} (z : t.length ≤ 1000)
    (hS : 0 ≤ fo t → ∀ H' d, Same H H' → H' d = none → E (.ref (He.ga K "BadSign")) (some d) (upd H' d (.xd [("at", .int (fo t))])))
    (h : (∀ c ∈ t, c ∈ letters) → ∀ l tT F tab fin H', Same H H' → H l = none → LotAt K H' l tT F 1 tab fin → Q (.ref l) H') : sp_Lot_every K [.ref (He.ga K "Lot"), .str (tx t)] H Q E := by
  by_cases f0 : fo t = -1
  · have ht := fo_all t f0
    exact lot_every_ok T ht z fun l tT F tab fin H' s f a _ _ _ => h ht l tT F tab fin H' s f a
  refine ⟨rfl, ?_⟩
  unfold t_Lot_every
  walk_at "sq"
  walk_at "st"
  refine check_ok (fun q => absurd q f0) fun q H' d s hd => hS q H' d s hd
theorem good_tree' {ws ns : List (List Nat)} (h : Names ws ns) (hw : ws ≠ []) (hl : ∀ w ∈ ws, ∀ c ∈ w, c ∈ letters) (hn : ns.length ≤ 40) : GoodLot ns.length (ws.map (nIx ns)) (treeM ns) where
  n1 := by have := List.length_pos_of_mem (h.nil_mem hw); omega
  n2 := by omega
  la := fun s hs => by
    obtain ⟨w, hw', rfl⟩ := List.mem_map.mp hs
    exact nIx_lt ((h.mem w).mpr ⟨w, hw', List.prefix_refl w⟩)
  mv := fun m hm => by
    obtain ⟨p, hp, p0, rfl⟩ := mem_treeM.mp hm
    exact ⟨nIx_lt (h.drop hp), nIx_lt hp, _, h.sign hl hp _ (getLastD_mem p0), rfl⟩
  de := tree_det h
theorem lot_only_out {P : Program} {mg : Str → Option Value} (T : Txt P K mg) {tA : Addr} {ws ns : List (List Nat)} {H : Hp} {Q : VK} {E : XK} (hA : H tA = some (.tup (ws.map fun w => V.str (tx w)))) (nm : Names ws ns) (w0 : ws ≠ []) (h4 : ∀ w ∈ ws, w.length ≤ 50) (hn : ws.length ≤ 4)
    (hS : ∀ (j : Nat) w, ws[j]? = some w → 0 ≤ fo w → (∀ (i : Nat) w', i < j → ws[i]? = some w' → fo w' = -1) → ∀ H' d, Same H H' → H' d = none → E (.ref (He.ga K "BadSign")) (some d) (upd H' d (.xd [("at", .int (fo w))])))
    (hB : (∀ w ∈ ws, ∀ c ∈ w, c ∈ letters) → 40 < ns.length → ∀ H', Same H H' → E (.ref (He.ga K "BadLot")) none H')
    (h : (∀ w ∈ ws, ∀ c ∈ w, c ∈ letters) → ns.length ≤ 40 → ∀ l tT F tab fin H', Same H H' → H l = none → LotAt K H' l tT F ns.length tab fin → Q (.ref l) H') : sp_Lot_only K [.ref (He.ga K "Lot"), .ref tA] H Q E := by
  refine ⟨rfl, ?_⟩
  unfold t_Lot_only
  have wl : 0 < ws.length := List.length_pos_iff.mpr w0
  walk_at "sq"
  walk_at "st"
  refine lenA_tup (.of hA) ?_
  rw [List.length_map]
  walk_at "st"
  walk_at "sq"
  walk_at "st"
  refine ⟨tA, rfl, ⟨_, .of hA⟩, ?_⟩
  refine for_it (walk_tup (K := K) (a := tA) (xs := ws.map fun w => V.str (tx w))) (fun i σ H2 => Same H H2 ∧ (∀ (j : Nat) w', j < i → ws[j]? = some w' → fo w' = -1) ∧ ∃ v, σ = [some (.ref (He.ga K "Lot")), some (.ref tA), v, none, none, none, none, none, none]) ⟨Same.refl _, fun j w' hj => absurd hj (Nat.not_lt_zero _), none, rfl⟩ (fun i σ H2 _ q => .of (q.1 _ _ hA)) ?_ ?_
  · rintro i x σ H2 H3 hi ⟨s2, hp, v, rfl⟩ ⟨rfl, hx⟩
    rw [List.getElem?_map] at hx
    cases e : ws[i]? with
    | none => rw [e] at hx; cases hx
    | some w =>
      rw [e] at hx
      cases hx
      walk_at "st"
      refine check_ok (fun f0 H4 s4 => ?_) (fun q H4 d s4 hd => hS i w e q hp H4 d (s2.trans s4) hd)
      refine ⟨s2.trans s4, fun j w' hj ew => ?_, _, rfl⟩
      by_cases ej : j = i
      · subst ej
        rw [e] at ew
        rw [← Option.some.inj ew]
        exact f0
      · exact hp j w' (by omega) ew
  rintro σ H2 ⟨s2, hp, v, rfl⟩
  rw [List.length_map] at hp
  have hl : ∀ w ∈ ws, ∀ c ∈ w, c ∈ letters := fun w hw => by
    obtain ⟨j, hj⟩ := List.getElem?_of_mem hw
    exact fo_all w (hp j w (List.getElem?_eq_some_iff.mp hj).1 hj)
  walk_at "sq"
  walk_at "st"
  have hA2 := s2 _ _ hA
  refine ⟨tA, rfl, ⟨_, .of hA2⟩, fun D SO hD => ?_⟩
  have lt4 : ∀ i, ((ws.take i).flatMap pf).length ≤ 204 := fun i => by
    rw [List.length_flatMap]
    have := sum_le_mul ((ws.take i).map fun w => (pf w).length) 51 fun x hx => by
      obtain ⟨w, hw, rfl⟩ := List.mem_map.mp hx
      unfold pf
      rw [List.length_map, List.length_range]
      have := h4 w (List.mem_of_mem_take hw)
      omega
    rw [List.length_map] at this
    rw [List.length_take] at this
    omega
  refine loop_it (walk_tup (K := K) (a := tA) (xs := ws.map fun w => V.str (tx w))) (fun i H3 => Same H2 H3 ∧ ∃ L, H3 D = some (SO L) ∧ SetX.Got SetX.kD (((ws.take i).flatMap pf).map txK) L) ⟨Same.new hD, [], upd_same, SetX.Got.zero⟩ (fun i H3 _ q => .of (q.1 _ _ hA2)) ?_ ?_
  · rintro i x H3 H4 hi ⟨s3, L, eL, got⟩ ⟨rfl, hx⟩
    rw [List.length_map] at hi
    rw [List.getElem?_map, List.getElem?_eq_getElem hi] at hx
    cases hx
    have hw : ws[i] ∈ ws := List.getElem_mem hi
    have w4 := h4 _ hw
    have etk : ws.take (i + 1) = ws.take i ++ [ws[i]] := List.take_succ_eq_append_getElem hi
    generalize ws[i] = w at hw w4 etk
    walk_at "st"
    refine ⟨rfl, ?_⟩
    walk_at "st"
    refine lenA_str (by rw [tx_len]; exact small2 (by omega)) ?_
    rw [tx_len]
    walk_at "st"
    refine ⟨_, rfl, by omega, by omega, ?_⟩
    have el : ((w.length : Int) + 1).toNat = w.length + 1 := by omega
    rw [el]
    refine loop_it (walk_range (lo := 0) (n := w.length + 1)) (fun j H5 => Same H2 H5 ∧ ∃ L, H5 D = some (SO L) ∧ SetX.Got SetX.kD (((ws.take i).flatMap pf ++ (List.range j).map w.take).map txK) L) ⟨s3, L, eL, by simpa using got⟩ (fun _ _ _ _ => trivial) ?_ ?_
    · rintro j x H5 H6 hj ⟨s5, L5, eL5, got5⟩ ⟨rfl, rfl⟩
      show gName 7 (V.int (0 + (j : Int))) _ _ _
      rw [Int.zero_add]
      walk_at "st"
      refine ⟨rfl, ?_⟩
      walk_at "st"
      refine slA_str (by rw [tx_len]; exact small2 (by omega)) ?_
      rw [cut_to _ _ (by omega)]
      refine ⟨txK (w.take j), L5, rfl, trivial, fun _ _ => trivial, eL5, ?_, fun L' ad => ?_⟩
      · have gl : L5.length ≤ _ := got5.len
        rw [List.length_map, List.length_append, List.length_map, List.length_range] at gl
        have := lt4 i
        have hj' : j < w.length + 1 := hj
        exact Nat.lt_of_le_of_lt (show L5.length + 1 ≤ 300 by omega) (show (300 : Nat) < SetX.memK.lim by decide +kernel)
      · refine ⟨fun b o e => ?_, L', upd_same, ?_⟩
        · rw [upd_ne (ne_of_none e hD)]
          exact s5 _ _ e
        · have e : (((ws.take i).flatMap pf ++ (List.range (j + 1)).map w.take).map txK) = (((ws.take i).flatMap pf ++ (List.range j).map w.take).map txK) ++ [txK (w.take j)] := by
            rw [List.range_succ, List.map_append (l₁ := List.range j), ← List.append_assoc, List.map_append (f := txK)]
            rfl
          rw [e]
          exact got5.step ad
    · rintro H5 ⟨s5, L5, eL5, got5⟩
      refine ⟨s5, L5, eL5, ?_⟩
      have e : (ws.take (i + 1)).flatMap pf = (ws.take i).flatMap pf ++ (List.range (w.length + 1)).map w.take := by
        rw [etk, List.flatMap_append]
        simp [pf]
      rw [e]
      exact got5
  rintro H3 ⟨s3, L, eL, got⟩
  rw [List.length_map, List.take_length] at got
  have lt4' := lt4 ws.length
  rw [List.take_length] at lt4'
  have gl : L.length ≤ _ := got.len
  rw [List.length_map] at gl
  refine ⟨L, eL, fun _ _ => trivial, ?_, (cmp_txt _).sub got.sub, fun L' p pm hp => ?_⟩
  · exact Nat.lt_of_le_of_lt (show L.length ≤ 300 by omega) (show (300 : Nat) < SetX.memK.lim by decide +kernel)
  have got' := got.perm pm
  obtain ⟨ps, eps, up, mem⟩ := names_of got'
  have e3 : (SetX.srt SetX.memK L').map SetX.memK.val = ps.map (fun p => V.str (tx p)) := eps
  rw [e3]
  have s4 : Same H2 (upd H3 p (.lst (ps.map fun p => V.str (tx p)))) := s3.trans (Same.new hp)
  have ep : upd H3 p (.lst (ps.map fun p => V.str (tx p))) p = some (.lst (ps.map fun p => V.str (tx p))) := upd_same
  generalize upd H3 p (.lst (ps.map fun p => V.str (tx p))) = H4 at s4 ep ⊢
  walk_at "st"
  walk_at "sq"
  walk_at "st"
  have e5 : ps.map (fun p => V.str (tx p)) = (ps.map tx).map V.str := by rw [List.map_map]; rfl
  have pl : ∀ p ∈ ps, p.length ≤ 50 := fun p hp => by
    obtain ⟨w, hw, q⟩ := (mem p).mp hp
    have := q.length_le
    have := h4 w hw
    omega
  refine ⟨p, ps.map tx, rfl, .of (by rw [← e5]; exact ep), fun x hx => ?_, fun p2 hp2 => ?_⟩
  · obtain ⟨q, hq, rfl⟩ := List.mem_map.mp hx
    rw [tx_len]
    have := pl q hq
    omega
  rw [srtLen_names nm up mem]
  have e6 : (ns.map tx).map V.str = ns.map (fun p => V.str (tx p)) := by rw [List.map_map]; rfl
  rw [e6]
  have s5 := s4.trans (Same.new (o := .lst (ns.map fun p => V.str (tx p))) hp2)
  have ep2 : upd H4 p2 (.lst (ns.map fun p => V.str (tx p))) p2 = some (.lst (ns.map fun p => V.str (tx p))) := upd_same
  generalize upd H4 p2 (.lst (ns.map fun p => V.str (tx p))) = H5 at s5 ep2 ⊢
  walk_at "st"
  walk_at "sq"
  walk_at "st"
  refine ⟨p2, _, rfl, .of ep2, fun D2 hD2 => ?_⟩
  refine loop_it (walk_enum (K := K) (a := p2) (xs := ns.map fun p => V.str (tx p))) (fun i H6 => Same H5 H6 ∧ H6 D2 = some (.dK (nKv ns (ns.take i)))) ⟨Same.new hD2, upd_same⟩ (fun i H6 _ q => .of (q.1 _ _ ep2)) ?_ ?_
  · rintro i x H6 H7 hi ⟨s6, e6⟩ ⟨tp, a, b, rfl, htp, rfl, ha, hb⟩
    rw [List.length_map] at hi
    have hb : (ns.map fun p => V.str (tx p))[i]? = some b := hb
    rw [List.getElem?_map, List.getElem?_eq_getElem hi] at hb
    cases ha
    cases hb
    have stp := Same.new (o := .tup [V.int (i : Nat), V.str (tx ns[i])]) htp
    refine rd_gtup upd_same rfl ?_
    walk_at "st"
    refine ⟨rfl, ?_⟩
    walk_at "st"
    refine ⟨_, txK ns[i], rfl, stp _ _ e6, ?_, fun b o e => ?_, ?_⟩
    · unfold nKv
      rw [List.length_map, List.length_take, sizeLine_eq]
      have := nm.few 50 4 h4 hn
      omega
    · rw [upd_ne (ne_of_none e hD2)]
      exact stp _ _ (s6 _ _ e)
    · rw [upd_same]
      have ni : ns[i] ∉ ns.take i := fun m => by
        have nd := nm.nd
        rw [← List.take_append_drop i ns] at nd
        have := (List.nodup_append.mp nd).2.2 _ m ns[i] (by rw [List.drop_eq_getElem_cons hi]; exact List.mem_cons_self)
        exact this rfl
      rw [putK_new _ (by rw [nKv_val, if_neg ni])]
      have ei : V.int ((i : Nat) : Int) = V.int (nIx ns ns[i]) := by
        unfold nIx
        rw [nm.nd.idxOf_getElem i hi]
      rw [ei, List.take_succ_eq_append_getElem hi]
      unfold nKv
      rw [List.map_append]
      rfl
  rintro H6 ⟨s6, e6⟩
  rw [List.length_map, List.take_length] at e6
  walk_at "st"
  walk_at "sq"
  walk_at "st"
  have ep6 := s6 _ _ ep2
  have nl := nm.few 50 4 h4 hn
  have ql : ∀ q ∈ ns, q.length ≤ 50 := fun p hp => by
    obtain ⟨w, hw, q⟩ := (nm.mem p).mp hp
    have := q.length_le
    have := h4 w hw
    omega
  refine ⟨p2, rfl, ⟨_, .of ep6⟩, fun D3 hD3 => ?_⟩
  refine lcA (walk_list (K := K) (a := p2) (xs := ns.map fun p => V.str (tx p))) (ns.map fun p => if p = [] then none else some (mvV (nMv ns p))) hD3 (fun H7 s7 => .of (s7 _ _ ep6)) (by rw [List.length_map, List.length_map]) (by rw [List.length_map]; omega) ?_ ?_
  · rintro i x ob H7 H8 C hi s7 ⟨rfl, hx⟩ hb hC
    rw [List.length_map] at hi
    rw [List.getElem?_map, List.getElem?_eq_getElem hi] at hx hb
    cases hx
    have hp := List.getElem_mem hi
    have hb : ob = if ns[i] = [] then none else some (mvV (nMv ns ns[i])) := (Option.some.inj hb).symm
    generalize ns[i] = q at hp hb
    have e7 := s7 _ _ e6
    walk_at "st"
    refine ⟨rfl, ?_⟩
    walk_at "st"
    by_cases q0 : q = []
    · subst q0
      rw [if_pos rfl] at hb
      subst hb
      refine rd_iteC (by decide +kernel) ?_
      exact hC _ none (Same.refl _) rfl
    · rw [if_neg q0] at hb
      subst hb
      have qe : tx q ≠ Str.ofString "" := fun e => q0 (tx_inj.mp (e.trans (by decide +kernel : Str.ofString "" = tx [])))
      refine rd_iteB (by rw [decide_eq_false qe]; rfl) ?_
      walk_at "st"
      refine slA_str (by rw [tx_len]; have := h4; exact small2 (by have := ql q hp; omega)) ?_
      rw [cut_init]
      refine ⟨D2, V.int (nIx ns q.dropLast), rfl, .inl ⟨_, txK q.dropLast, .inl e7, rfl, by rw [nKv_val, if_pos (nm.drop hp)]⟩, ?_⟩
      walk_at "st"
      refine ixA_str (by rw [tx_len]; exact small2 (by have := ql q hp; omega)) (by rw [tx_toList]; exact atI_last q0) ?_
      walk_at "st"
      refine ⟨D2, V.int (nIx ns q), rfl, .inl ⟨_, txK q, .inl e7, rfl, by rw [nKv_val, if_pos hp]⟩, ?_⟩
      walk_at "st"
      intro tp htp
      exact hC _ _ (Same.new htp) ⟨_, rfl, _, rfl, upd_same⟩
  rintro H7 ys s7 eD3 it
  rw [fm_tree] at it
  obtain ⟨us, rfl, hm⟩ := items_mv it
  walk_at "st"
  refine ⟨rfl, ?_⟩
  walk_at "st"
  refine lenA_lst (.of (s7 _ _ ep6)) ?_
  rw [List.length_map]
  walk_at "st"
  have hA7 := s7 _ _ (s6 _ _ (s5 _ _ hA2))
  have e7 := s7 _ _ e6
  refine ⟨tA, rfl, ⟨_, .of hA7⟩, fun D4 hD4 => ?_⟩
  refine lcA (walk_tup (K := K) (a := tA) (xs := ws.map fun w => V.str (tx w))) (ws.map fun w => some (.inl (V.int (nIx ns w)))) hD4 (fun H8 s8 => .of (s8 _ _ hA7)) (by rw [List.length_map, List.length_map]) (by rw [List.length_map]; omega) ?_ ?_
  · rintro i x ob H8 H9 C hi s8 ⟨rfl, hx⟩ hb hC
    rw [List.length_map] at hi
    rw [List.getElem?_map, List.getElem?_eq_getElem hi] at hx hb
    cases hx
    cases hb
    have hp := List.getElem_mem hi
    generalize ws[i] = w at hp hC
    have hn : w ∈ ns := (nm.mem w).mpr ⟨w, hp, List.prefix_refl w⟩
    walk_at "st"
    refine ⟨rfl, ?_⟩
    walk_at "st"
    refine ⟨D2, V.int (nIx ns w), rfl, .inl ⟨_, txK w, .inl (s8 _ _ e7), rfl, by rw [nKv_val, if_pos hn]⟩, ?_⟩
    exact hC _ _ (Same.refl _) ⟨_, rfl, rfl⟩
  rintro H8 ys s8 eD4 it4
  rw [fm_some] at it4
  have ey : ys = (ws.map (nIx ns)).map V.int := by
    have : ws.map (fun w => (Sum.inl (V.int (nIx ns w)) : V ⊕ List V)) = ((ws.map (nIx ns)).map V.int).map Sum.inl := by simp
    rw [this] at it4
    exact items_v it4
  subst ey
  have eD3' := s8 _ _ eD3
  have hm8 : MvsAt H8 us (treeM ns) := hm.keep fun u xs e => s8 _ _ e
  walk_at "st"
  intro l dx hl' hdx hne
  have n3 : D3 ≠ l := ne_of_none eD3' hl'
  have n4 : D4 ≠ l := ne_of_none eD4 hl'
  have sA : Same H H8 := (((s2.trans s5).trans s6).trans s7).trans s8
  have s9 : Same H (upd (upd H8 dx (.own l)) l (.ins (He.ga K "Lot") dx [])) := fun b o e => by
    have e2 := sA _ _ e
    rw [upd_ne (ne_of_none e2 hl'), upd_ne (ne_of_none e2 hdx)]
    exact e2
  have fr : H l = none := by
    cases q : H l with
    | none => rfl
    | some o => have := sA _ _ q; rw [hl'] at this; cases this
  have e1 : upd (upd H8 dx (.own l)) l (.ins (He.ga K "Lot") dx []) D4 = some (.lst ((ws.map (nIx ns)).map V.int)) := by
    rw [upd_ne n4, upd_ne (ne_of_none eD4 hdx)]; exact eD4
  have e2 : upd (upd H8 dx (.own l)) l (.ins (He.ga K "Lot") dx []) D3 = some (.lst (us.map V.ref)) := by
    rw [upd_ne n3, upd_ne (ne_of_none eD3' hdx)]; exact eD3'
  have e3 : MvsAt (upd (upd H8 dx (.own l)) l (.ins (He.ga K "Lot") dx [])) us (treeM ns) := hm8.keep fun u xs e => by
    rw [upd_ne (ne_of_none e hl'), upd_ne (ne_of_none e hdx)]; exact e
  have tl : (treeM ns).length ≤ 1000 := by
    unfold treeM
    rw [List.length_map]
    have := List.length_filter_le (fun p => decide (p ≠ [])) ns
    omega
  have k9 : ∀ {H9 : Hp}, Keep l (upd (upd H8 dx (.own l)) l (.ins (He.ga K "Lot") dx [])) H9 → Same H H9 := fun k b o e => k b o (fun q => by rw [q, fr] at e; cases e) (s9 b o e)
  refine lot_init_out T upd_same e1 e2 e3 (fun m hm => ?_) (by rw [List.length_map]; omega) tl (fun ng H9 k => hB hl ?_ H9 (k9 k)) (fun _ i i0 i1 _ nr => absurd (tree_use nm w0 i i0 i1) nr) fun g _ tT F tab fin H9 k fT fF lat tb mf pf => ⟨rfl, ?_⟩
  · obtain ⟨p, _, _, rfl⟩ := mem_treeM.mp hm
    exact Nat.le_trans (Nat.le_of_eq (tx_len _)) (by simp)
  · by_cases c : ns.length ≤ 40
    · exact absurd (good_tree' nm w0 hl c) ng
    · omega
  · exact h hl (by have := g.n2; omega) l tT F tab fin H9 (k9 k) fr lat
theorem lot_only_none {P : Program} {mg : Str → Option Value} (T : Txt P K mg) {tA : Addr} {H : Hp} {Q : VK} {E : XK} (hA : H tA = some (.tup [])) (hB : E (.ref (He.ga K "BadLot")) none H) : sp_Lot_only K [.ref (He.ga K "Lot"), .ref tA] H Q E := by
  refine ⟨rfl, ?_⟩
  unfold t_Lot_only
  walk_at "sq"
  walk_at "st"
  refine lenA_tup (.of hA) ?_
  walk_at "st"
  exact hB
/-! _law_raw, _law_spoilt -/
theorem odd_all3 : ∀ c ∈ (Str.ofString " !\"#$&'()*+,-./0123456789:;<=>?@ABCDEFGHIJKLMNOPQRSTUVWXYZ[\\]^_`{|}~\n\t").cps.toList, c ∉ letters ∧ c < 0x110000 := by decide +kernel
theorem odd3_ok {d : Addr} {H : Hp} {Q : VK} {E : XK} (hd : DrL H d) (h : ∀ (c : Nat) H', c ∉ letters → c < 0x110000 → Keep d H H' → DrL H' d → Q (.str (tx [c])) H') : sp_law_odd_sign K [.ref d] H Q E := by
  refine ⟨rfl, ?_⟩
  unfold t_law_odd_sign
  walk_at "go"
  refine lenA_str (small2 (by decide)) ?_
  walk_at "go"
  refine pick_ok (by decide) hd fun r H1 r0 r1 k1 d1 => ?_
  obtain ⟨n, rfl⟩ : ∃ n : Nat, r = n := ⟨r.toNat, by omega⟩
  have oa := odd_all3
  generalize hz : (Str.ofString " !\"#$&'()*+,-./0123456789:;<=>?@ABCDEFGHIJKLMNOPQRSTUVWXYZ[\\]^_`{|}~\n\t") = z at r1 oa ⊢
  have hn : n < z.cps.toList.length := by
    have : z.cps.toList.length = z.length := by simp [Str.length]
    omega
  obtain ⟨o1, o2⟩ := oa _ (List.getElem_mem hn)
  exact ixA_str (by rw [← hz]; exact small2 (by decide)) (atI_nat (List.getElem?_eq_getElem hn)) (h _ H1 o1 o2 k1 d1)
/-- a move with a short string that can be laid -/
def SmM (m : Mv) : Prop := m.2.1.cps.size ≤ 2 ∧ PyData.strOk m.2.1 = true
theorem strOk_l {l : List Nat} (h : ∀ c ∈ l, c < 0x110000) : PyData.strOk (tx l) = true := by
  simp [PyData.strOk, tx]
  exact h
theorem SmM.of {a b : Int} {l : List Nat} (hl : l.length ≤ 2) (h : ∀ c ∈ l, c < 0x110000) : SmM (a, tx l, b) := ⟨by show (tx l).length ≤ 2; rw [tx_len]; exact hl, strOk_l h⟩
theorem SmM.sg {m : Mv} (h : IsSg m.2.1) : SmM m := by
  obtain ⟨c, hc, e⟩ := h
  obtain ⟨a, z, b⟩ := m
  have e : z = tx [c] := e
  rw [e]
  exact .of (by simp) fun x hx => by rw [List.mem_singleton.mp hx]; exact letters_small c hc
theorem mv_lay' {m : Mv} (h : SmM m) : PyData.canLay0 (mvD m) = true := by
  have := h.2
  simp [mvD, PyData.canLay0, PyData.canLayAll0, this]
theorem mvs_lay' : ∀ {ms : List Mv}, (∀ m ∈ ms, SmM m) → PyData.canLayAll0 (ms.map mvD) = true
  | [], _ => by simp [PyData.canLayAll0]
  | m :: r, h => by simp [PyData.canLayAll0, mv_lay' (h m List.mem_cons_self), mvs_lay' (ms := r) fun x hx => h x (List.mem_cons_of_mem _ hx)]
theorem shaped_mvs' {ms : List Mv} (h : ∀ m ∈ ms, SmM m) : SeqAt.shaped (.list (ms.map mvD)) = true := by
  have := mvs_depth ms
  simp [SeqAt.shaped, PyData.canLay0, mvs_lay' h, PyData.depth]
  omega
theorem eqA_mvsNil' {a p : Addr} {us : List Addr} {ms : List Mv} {H : Hp} {Q : VK} (ha : H a = some (.lst (us.map V.ref))) (hm : MvsAt H us ms) (sg : ∀ m ∈ ms, SmM m) (hp : H p = some (.lst [])) (h : Q (.bl ms.isEmpty) H) : rEqA K (.ref a) (.ref p) H Q :=
  eqA_data (.lst (SqL.of ha) (mvs_dp hm)) (nilData hp) (shaped_mvs' sg) (shaped_ints []) (by cases ms <;> simp [PyData.eqv, PyData.eqvAll]) h
theorem neA_mvsNil' {a p : Addr} {us : List Addr} {ms : List Mv} {H : Hp} {Q : VK} (ha : H a = some (.lst (us.map V.ref))) (hm : MvsAt H us ms) (sg : ∀ m ∈ ms, SmM m) (hp : H p = some (.lst [])) (h : Q (.bl (!ms.isEmpty)) H) : rNeA K (.ref a) (.ref p) H Q :=
  neA_data (.lst (SqL.of ha) (mvs_dp hm)) (nilData hp) (shaped_mvs' sg) (shaped_ints []) (by cases ms <;> simp [PyData.eqv, PyData.eqvAll]) h
structure PK (k : Nat) (last : List Int) (ms : List Mv) : Prop where
  l : last.length ≤ 20 + k
  m : ms.length ≤ 45 + k
  s : ∀ m ∈ ms, SmM m
theorem raw_ok {d : Addr} {sg : List Nat} {H : Hp} {Q : VK} {E : XK} (hd : DrL H d) (hl : ∀ c ∈ sg, c ∈ letters) (s3 : sg.length = 3)
    (h : ∀ pa La Ma us n last ms H', Keep d H H' → DrL H' d → PartsAt H' pa La Ma us n last ms → La ≠ d → Ma ≠ d → PK 0 last ms → Q (.ref pa) H') : sp_law_raw K [.ref d, .str (tx sg)] H Q E := by
  refine ⟨rfl, ?_⟩
  unfold t_law_raw
  have dn : ∀ {H2 : Hp} {b : Addr}, DrL H2 d → H2 b = none → b ≠ d := fun dd hb e => by
    obtain ⟨_, _, q⟩ := dd
    rw [e, q] at hb
    cases hb
  walk_at "sq"
  walk_at "st"
  refine pick_ok (by decide) hd fun r H1 r0 r1 k1 d1 => ?_
  obtain ⟨n, hn⟩ : ∃ n : Int, n = 1 + r := ⟨_, rfl⟩
  walk_at "st"
  rw [← hn]
  have n1 : 1 ≤ n := by omega
  have n5 : n ≤ 5 := by omega
  clear hn
  walk_at "sq"
  walk_at "st"
  intro M hM
  have nM : M ≠ d := dn d1 hM
  have sM := Same.new (o := .lst []) hM
  have kM := k1.trans (Keep.same sM)
  have fM : H M = none := k1.free nM hM
  walk_at "st"
  walk_at "sq"
  walk_at "st"
  refine pick_ok (by decide) (d1.same sM) fun q H2 q0 q1 k2 d2 => ?_
  have eM2 := k2 _ _ nM (show upd H1 M (.lst []) M = some (.lst []) from upd_same)
  have kH2 := kM.trans k2
  walk_at "st"
  refine ⟨q, rfl, by omega, by omega, ?_⟩
  refine forR (n := q) (fun i σ H3 => Keep d H H3 ∧ DrL H3 d ∧ (∃ v4 v5 v6 v7, σ = [some (.ref d), some (.str (tx sg)), some (.int n), some (.ref M), v4, v5, v6, v7]) ∧ ∃ (us : List Addr) (ms : List Mv), H3 M = some (.lst (us.map V.ref)) ∧ MvsAt H3 us ms ∧ (∀ m ∈ ms, IsSg m.2.1) ∧ ms.length ≤ i)
    ⟨kH2, d2, ⟨none, none, none, none, rfl⟩, [], [], eM2, ⟨rfl, fun i u m a => by simp at a⟩, fun m hm => (nomatch hm), Nat.zero_le _⟩ ?_ ?_
  · rintro i σ H3 hi ⟨k3, d3, ⟨v4, v5, v6, v7, rfl⟩, us, ms, eM, hm, sgs, le⟩
    walk_at "st"
    walk_at "sq"
    walk_at "st"
    refine pick_ok (by omega) d3 fun w H4 w0 w1 k4 d4 => ?_
    walk_at "st"
    walk_at "sq"
    walk_at "st"
    refine pick_ok (by decide) d4 fun j H5 j0 j1 k5 d5 => ?_
    obtain ⟨jn, rfl⟩ : ∃ jn : Nat, j = jn := ⟨j.toNat, by omega⟩
    have hj : jn < sg.length := by omega
    refine ixA_str (by rw [tx_len]; exact small2 (by omega)) (atI_nat (j := jn) (v := sg[jn]) (by rw [tx_toList]; exact List.getElem?_eq_getElem hj)) ?_
    have hc : sg[jn] ∈ letters := hl _ (List.getElem_mem hj)
    generalize sg[jn] = c at hc ⊢
    have k35 := k4.trans k5
    have tup5 : ∀ u xs, H3 u = some (.tup xs) → H5 u = some (.tup xs) := fun u xs e => k35 _ _ (fun z => by obtain ⟨_, _, y⟩ := d3; rw [z, y] at e; cases e) e
    have hm5 := hm.keep tup5
    have eM5 := k35 _ _ nM eM
    walk_at "st"
    refine ⟨M, rfl, ⟨_, .of eM5⟩, fun D hD => ?_⟩
    let p : Mv → Bool := fun m => decide (m.1 = w) && decide (m.2.1 = tx [c])
    have hpd : ∀ m, p m = (decide (m.1 = w) && decide (m.2.1 = tx [c])) := fun _ => rfl
    obtain ⟨os, eo, hmo⟩ := filt_mvs p hm5
    clear_value p
    have zl : ((us.zip ms).map fun q => if p q.2 = true then some (Sum.inl (V.ref q.1) : V ⊕ List V) else none).length = (us.map V.ref).length := by
      rw [List.length_map, List.length_map, List.length_zip, hm.l]; omega
    refine lcA (walk_list (K := K) (a := M) (xs := us.map V.ref)) ((us.zip ms).map fun q => if p q.2 = true then some (Sum.inl (V.ref q.1) : V ⊕ List V) else none) hD (fun H6 s6 => .of (s6 _ _ eM5)) zl (by rw [List.length_map, hm.l]; omega) ?_ ?_
    · rintro i x ob H6 H7 C hi s6 ⟨rfl, hx⟩ hb hC
      rw [List.length_map] at hi
      have hi2 : i < ms.length := by rw [← hm.l]; exact hi
      rw [List.getElem?_map, List.getElem?_eq_getElem hi] at hx
      have hzi : (us.zip ms)[i]? = some (us[i], ms[i]) := List.getElem?_zip_eq_some.mpr ⟨List.getElem?_eq_getElem hi, List.getElem?_eq_getElem hi2⟩
      rw [List.getElem?_map, hzi] at hb
      cases hx
      have hb : ob = if p ms[i] = true then some (Sum.inl (V.ref us[i]) : V ⊕ List V) else none := (Option.some.inj hb).symm
      have eu := s6 _ _ (hm5.g i _ _ (List.getElem?_eq_getElem hi) (List.getElem?_eq_getElem hi2))
      have ep := hpd ms[i]
      generalize ms[i] = m at hb eu ep
      generalize us[i] = u at hb eu
      walk_at "st"
      refine ⟨rfl, ?_⟩
      walk_at "st"
      refine ixA_tup (.of eu) ix0 ?_
      walk_at "st"
      by_cases c1 : m.1 = w
      · refine rd_iteB (decide_eq_true c1) ?_
        walk_at "st"
        refine ixA_tup (.of eu) ix1 ?_
        walk_at "st"
        by_cases c2 : m.2.1 = tx [c]
        · refine rd_iteB (decide_eq_true c2) ?_
          rw [ep, decide_eq_true c1, decide_eq_true c2] at hb
          subst hb
          walk_at "st"
          exact hC _ _ (Same.refl _) ⟨_, rfl, rfl⟩
        · refine rd_iteC (decide_eq_false c2) ?_
          rw [ep, decide_eq_false c2, Bool.and_false] at hb
          subst hb
          exact hC _ none (Same.refl _) rfl
      · refine rd_iteC (decide_eq_false c1) ?_
        rw [ep, decide_eq_false c1, Bool.false_and] at hb
        subst hb
        exact hC _ none (Same.refl _) rfl
    rintro H6 ys s6 eD it
    rw [eo] at it
    have ey := items_v it
    subst ey
    walk_at "st"
    intro N0 hN0
    have sN := Same.new (o := .lst []) hN0
    walk_at "st"
    have s56 := s6.trans sN
    refine eqA_mvsNil' (sN _ _ eD) (hmo.keep fun u xs e => s56 _ _ e) (fun m hm' => .sg (sgs m (List.mem_filter.mp hm').1)) upd_same ?_
    have eM6 := s56 _ _ eM5
    have hm6 := hm5.keep (H' := upd H6 N0 (.lst [])) fun u xs e => s56 _ _ e
    have d6 := d5.same s56
    have k36 := (k3.trans k35).trans (Keep.same s56)
    generalize upd H6 N0 (.lst []) = HB at eM6 hm6 d6 k36 ⊢
    walk_at "st"
    by_cases me : ms.filter p = []
    rotate_left
    · refine rd_iteC (by cases q : ms.filter p with | nil => exact absurd q me | cons _ _ => rfl) ?_
      walk_at "st"
      exact ⟨k36, d6, ⟨_, _, _, _, rfl⟩, us, ms, eM6, hm6, sgs, by omega⟩
    refine rd_iteB (by rw [me]; rfl) ?_
    walk_at "st"
    refine ⟨tyL eM6, ?_⟩
    walk_at "st"
    refine pick_ok (by omega) d6 fun w2 H7 y0 y1 k7 d7 => ?_
    have eM7 := k7 _ _ nM eM6
    have hm7 : MvsAt H7 us ms := hm6.keep fun u xs e => k7 _ _ (fun z => by obtain ⟨_, _, y⟩ := d6; rw [z, y] at e; cases e) e
    walk_at "st"
    intro tp htp
    have st := Same.new (o := .tup [V.int w, V.str (tx [c]), V.int w2]) htp
    walk_at "st"
    refine append_go (st _ _ eM7) (by rw [List.length_map, hm7.l]; omega) ?_
    walk_at "st"
    have kt : ∀ u xs, upd H7 tp (.tup [V.int w, V.str (tx [c]), V.int w2]) u = some (.tup xs) → upd (upd H7 tp (.tup [V.int w, V.str (tx [c]), V.int w2])) M (.lst (us.map V.ref ++ [V.ref tp])) u = some (.tup xs) := fun u xs e => by
      rw [upd_ne (fun z => by rw [z, st _ _ eM7] at e; cases e)]; exact e
    refine ⟨fun b o nb e => ?_, ?_, ⟨_, _, _, _, rfl⟩, us ++ [tp], ms ++ [(w, tx [c], w2)], by rw [upd_same, List.map_append]; rfl, ?_, fun m hm' => ?_, ?_⟩
    · rw [upd_ne (ne_of_none e fM)]
      exact st _ _ (k7 _ _ nb (k36 _ _ nb e))
    · obtain ⟨ds, z1, z2⟩ := d7
      exact ⟨ds, z1, by rw [upd_ne (Ne.symm nM)]; exact st _ _ z2⟩
    · exact ((hm7.keep fun u xs e => st _ _ e).append (MvsAt.one (m := (w, tx [c], w2)) upd_same)).keep kt
    · rcases List.mem_append.mp hm' with z | z
      · exact sgs m z
      · rw [List.mem_singleton.mp z]
        exact ⟨c, hc, rfl⟩
    · rw [List.length_append, List.length_singleton]; omega
  · rintro σ H3 ⟨k3, d3, ⟨v4, v5, v6, v7, rfl⟩, us, ms, eM, hm, sgs, le⟩
    walk_at "st"
    refine ⟨n, rfl, by omega, by omega, fun L hL => ?_⟩
    have nL : L ≠ d := dn d3 hL
    unfold LcAt
    refine lc_it (Qd := _) (walk_range (lo := 0) (n := n.toNat)) (fun i H4 => Keep d H3 H4 ∧ DrL H4 d ∧ ∃ ls : List Int, H4 L = some (.lst (ls.map V.int)) ∧ ls.length ≤ i)
      ⟨Keep.new hL, d3.same (Same.new hL), [], upd_same, Nat.zero_le _⟩ (fun _ _ _ _ => trivial) ?_ ?_
    · rintro i x H4 H5 hi ⟨k4, d4, ls, eL, ll⟩ ⟨rfl, rfl⟩
      show gName 5 (V.int (0 + (i : Int))) _ _ _
      rw [Int.zero_add]
      walk_at "st"
      refine ⟨rfl, ?_⟩
      walk_at "st"
      refine pick_ok (by decide) d4 fun w H6 w0 w1 k6 d6 => ?_
      have eL6 := k6 _ _ nL eL
      walk_at "st"
      by_cases c : w = 1
      · refine rd_iteB (decide_eq_true c) ?_
        walk_at "st"
        refine ⟨_, eL6, by rw [List.length_map, sizeLine_eq]; omega, fun b o nb e => ?_, ?_, ls ++ [(i : Int)], by rw [upd_same, mapI_app], by rw [List.length_append, List.length_singleton]; omega⟩
        · rw [upd_ne (ne_of_none e hL)]
          exact k6 _ _ nb (k4 _ _ nb e)
        · obtain ⟨ds, z1, z2⟩ := d6
          exact ⟨ds, z1, by rw [upd_ne (Ne.symm nL)]; exact z2⟩
      · refine rd_iteC (decide_eq_false c) ?_
        exact ⟨k4.trans k6, d6, ls, eL6, by omega⟩
    rintro H4 ⟨k4, d4, ls, eL, ll⟩
    walk_at "st"
    intro pa hpa
    have spa := Same.new (o := .tup [V.int n, V.ref L, V.ref M]) hpa
    have tup4 : ∀ u xs, H3 u = some (.tup xs) → H4 u = some (.tup xs) := fun u xs e => k4 _ _ (fun z => by obtain ⟨_, _, y⟩ := d3; rw [z, y] at e; cases e) e
    exact h pa L M us n ls ms _ ((k3.trans k4).trans (Keep.same spa)) (d4.same spa) ⟨upd_same, spa _ _ eL, spa _ _ (k4 _ _ nM eM), hm.keep fun u xs e => spa _ _ (tup4 _ _ e)⟩ nL nM ⟨by omega, by omega, fun m hm' => .sg (sgs m hm')⟩
/-! _law_spoilt -/
theorem MvsAt.take {H : Hp} {us : List Addr} {ms : List Mv} (h : MvsAt H us ms) (k : Nat) : MvsAt H (us.take k) (ms.take k) := by
  refine ⟨by rw [List.length_take, List.length_take, h.l], fun i u m a b => ?_⟩
  rw [List.getElem?_take] at a b
  split at a
  · rename_i c
    rw [if_pos c] at b
    exact h.g i u m a b
  · cases a
theorem MvsAt.drop {H : Hp} {us : List Addr} {ms : List Mv} (h : MvsAt H us ms) (k : Nat) : MvsAt H (us.drop k) (ms.drop k) := by
  refine ⟨by rw [List.length_drop, List.length_drop, h.l], fun i u m a b => ?_⟩
  rw [List.getElem?_drop] at a b
  exact h.g _ u m a b
theorem MvsAt.ins {H : Hp} {us : List Addr} {ms : List Mv} (h : MvsAt H us ms) (k : Nat) {u : Addr} {m : Mv} (e : H u = some (.tup [.int m.1, .str m.2.1, .int m.2.2])) : MvsAt H (us.take k ++ [u] ++ us.drop k) (ms.take k ++ [m] ++ ms.drop k) := ((h.take k).append (.one e)).append (h.drop k)
theorem PK.insL {k : Nat} {last : List Int} {ms : List Mv} (h : PK k last ms) (i : Nat) (x : Int) : PK (k + 1) (last.take i ++ [x] ++ last.drop i) ms := by
  have := h.l
  have := h.m
  refine ⟨?_, by omega, h.s⟩
  have := congrArg List.length (List.take_append_drop i last)
  simp only [List.length_append, List.length_singleton] at this ⊢
  omega
theorem PK.insM {k : Nat} {last : List Int} {ms : List Mv} (h : PK k last ms) (i : Nat) {m : Mv} (hm : SmM m) : PK (k + 1) last (ms.take i ++ [m] ++ ms.drop i) := by
  have := h.l
  have := h.m
  refine ⟨by omega, ?_, fun x hx => ?_⟩
  · have := congrArg List.length (List.take_append_drop i ms)
    simp only [List.length_append, List.length_singleton] at this ⊢
    omega
  · rcases List.mem_append.mp hx with z | z
    · rcases List.mem_append.mp z with z | z
      · exact h.s x (List.mem_of_mem_take z)
      · rw [List.mem_singleton.mp z]; exact hm
    · exact h.s x (List.mem_of_mem_drop z)
theorem PK.up {k : Nat} {last : List Int} {ms : List Mv} (h : PK k last ms) : PK (k + 1) last ms := ⟨by have := h.l; omega, by have := h.m; omega, h.s⟩
theorem insert_go {l : Addr} {xs : List V} {i : Int} {y : V} {H : Hp} {Q : VK} (e : H l = some (.lst xs)) (z : xs.length < 100000) (i0 : 0 ≤ i) (i1 : i < 2 ^ 63) (h : Q .non (upd H l (.lst (xs.take i.toNat ++ [y] ++ xs.drop i.toNat)))) : rInsertA (.ref l) [.int i, y] H Q :=
  ⟨l, xs, i, y, rfl, rfl, e, by rw [sizeLine_eq]; omega, i0, i1, h⟩
theorem ins_map {α β : Type} (f : α → β) (l : List α) (k : Nat) (a : α) : (l.map f).take k ++ [f a] ++ (l.map f).drop k = (l.take k ++ [a] ++ l.drop k).map f := by simp [List.map_append, List.map_take, List.map_drop]
theorem at2 (a b : Int) {r : Int} (r0 : 0 ≤ r) (r1 : r < 2) : ∃ o : Int, atI [V.int a, V.int b] r = some (V.int o) := by
  have : r = 0 ∨ r = 1 := by omega
  rcases this with e | e
  · subst e; exact ⟨a, ix0⟩
  · subst e; exact ⟨b, ix1⟩
theorem at4 (a b c e : Int) {r : Int} (r0 : 0 ≤ r) (r1 : r < 4) : ∃ o : Int, atI [V.int a, V.int b, V.int c, V.int e] r = some (V.int o) := by
  have : r = 0 ∨ r = 1 ∨ r = 2 ∨ r = 3 := by omega
  rcases this with z | z | z | z
  · subst z; exact ⟨a, ix0⟩
  · subst z; exact ⟨b, ix1⟩
  · subst z; exact ⟨c, ix2⟩
  · subst z; exact ⟨e, atI_nat (j := 3) rfl⟩
theorem at4s {P : Str → Prop} {a b c e : Str} (ha : P a) (hb : P b) (hc : P c) (he : P e) {r : Int} (r0 : 0 ≤ r) (r1 : r < 4) : ∃ o : Str, atI [V.str a, V.str b, V.str c, V.str e] r = some (V.str o) ∧ P o := by
  have : r = 0 ∨ r = 1 ∨ r = 2 ∨ r = 3 := by omega
  rcases this with z | z | z | z
  · subst z; exact ⟨a, ix0, ha⟩
  · subst z; exact ⟨b, ix1, hb⟩
  · subst z; exact ⟨c, ix2, hc⟩
  · subst z; exact ⟨e, atI_nat (j := 3) rfl, he⟩
/-- what stands at hand in _law_spoilt: the draws, the copies -/
structure SpA (H : Hp) (d L M : Addr) (k : Nat) (us : List Addr) (last : List Int) (ms : List Mv) : Prop where
  dr : DrL H d
  l : H L = some (.lst (last.map V.int))
  m : H M = some (.lst (us.map V.ref))
  mv : MvsAt H us ms
  nL : L ≠ d
  nM : M ≠ d
  ne : L ≠ M
  pk : PK k last ms
theorem SpA.same {H H' : Hp} {d L M : Addr} {k : Nat} {us : List Addr} {last : List Int} {ms : List Mv} (h : SpA H d L M k us last ms) (s : Same H H') : SpA H' d L M k us last ms :=
  ⟨h.dr.same s, s _ _ h.l, s _ _ h.m, h.mv.keep fun u xs e => s _ _ e, h.nL, h.nM, h.ne, h.pk⟩
theorem SpA.keep {H H' : Hp} {d L M : Addr} {k : Nat} {us : List Addr} {last : List Int} {ms : List Mv} (h : SpA H d L M k us last ms) (c : Keep d H H') (d' : DrL H' d) : SpA H' d L M k us last ms :=
  ⟨d', c _ _ h.nL h.l, c _ _ h.nM h.m, h.mv.keep fun u xs e => c _ _ (fun z => by obtain ⟨_, _, y⟩ := h.dr; rw [z, y] at e; cases e) e, h.nL, h.nM, h.ne, h.pk⟩
theorem SpA.notT {H : Hp} {d L M : Addr} {k : Nat} {us : List Addr} {last : List Int} {ms : List Mv} (h : SpA H d L M k us last ms) {u : Addr} {xs : List V} (e : H u = some (.tup xs)) : u ≠ L ∧ u ≠ M ∧ u ≠ d := by
  refine ⟨fun z => ?_, fun z => ?_, fun z => ?_⟩
  · rw [z, h.l] at e; cases e
  · rw [z, h.m] at e; cases e
  · obtain ⟨_, _, y⟩ := h.dr
    rw [z, y] at e; cases e
theorem SpA.putL {H : Hp} {d L M : Addr} {k : Nat} {us : List Addr} {last : List Int} {ms : List Mv} (h : SpA H d L M k us last ms) (i : Nat) (x : Int) : SpA (upd H L (.lst ((last.map V.int).take i ++ [V.int x] ++ (last.map V.int).drop i))) d L M (k + 1) us (last.take i ++ [x] ++ last.drop i) ms := by
  refine ⟨?_, ?_, ?_, h.mv.keep fun u xs e => ?_, h.nL, h.nM, h.ne, h.pk.insL i x⟩
  · obtain ⟨ds, z1, z2⟩ := h.dr
    exact ⟨ds, z1, by rw [upd_ne (Ne.symm h.nL)]; exact z2⟩
  · rw [upd_same, ins_map]
  · rw [upd_ne (Ne.symm h.ne)]; exact h.m
  · rw [upd_ne (h.notT e).1]; exact e
theorem SpA.putM {H : Hp} {d L M u : Addr} {k : Nat} {us : List Addr} {last : List Int} {ms : List Mv} {m : Mv} (h : SpA H d L M k us last ms) (i : Nat) (e : H u = some (.tup [.int m.1, .str m.2.1, .int m.2.2])) (hm : SmM m) : SpA (upd H M (.lst ((us.map V.ref).take i ++ [V.ref u] ++ (us.map V.ref).drop i))) d L M (k + 1) (us.take i ++ [u] ++ us.drop i) last (ms.take i ++ [m] ++ ms.drop i) := by
  refine ⟨?_, ?_, ?_, (h.mv.ins i e).keep fun u xs e => ?_, h.nL, h.nM, h.ne, h.pk.insM i hm⟩
  · obtain ⟨ds, z1, z2⟩ := h.dr
    exact ⟨ds, z1, by rw [upd_ne (Ne.symm h.nM)]; exact z2⟩
  · rw [upd_ne h.ne]; exact h.l
  · rw [upd_same, ins_map]
  · rw [upd_ne (h.notT e).2.1]; exact e
theorem spoilt_ok {d pa La Ma : Addr} {us : List Addr} {n : Int} {last : List Int} {ms : List Mv} {k : Nat} {sg : List Nat} {H : Hp} {Q : VK} {E : XK} (hd : DrL H d) (hp : PartsAt H pa La Ma us n last ms) (nL : La ≠ d) (nM : Ma ≠ d) (pk : PK k last ms) (k9 : k ≤ 9) (n1 : 1 ≤ n) (hl : ∀ c ∈ sg, c ∈ letters) (s3 : sg.length = 3)
    (h : ∀ pa La Ma us n last ms H', Keep d H H' → DrL H' d → PartsAt H' pa La Ma us n last ms → La ≠ d → Ma ≠ d → PK (k + 1) last ms → Q (.ref pa) H') : sp_law_spoilt K [.ref d, .ref pa, .str (tx sg)] H Q E := by
  refine ⟨rfl, ?_⟩
  unfold t_law_spoilt
  have dn : ∀ {H2 : Hp} {b : Addr}, DrL H2 d → H2 b = none → b ≠ d := fun dd hb e => by
    obtain ⟨_, _, q⟩ := dd
    rw [e, q] at hb
    cases hb
  have npa : pa ≠ d := fun e => by
    obtain ⟨_, _, q⟩ := hd
    rw [← e, hp.p] at q
    cases q
  walk_at "sq"
  walk_at "st"
  refine ixA_tup (.of hp.p) ix0 ?_
  walk_at "st"
  walk_at "sq"
  walk_at "st"
  refine ixA_tup (.of hp.p) ix1 ?_
  refine ⟨La, _, rfl, .inl (.of hp.la), fun L hL => ?_⟩
  have sL := Same.new (o := .lst (last.map V.int)) hL
  have hp1 := hp.same sL
  have d1 := hd.same sL
  have nL1 := dn hd hL
  have eL : upd H L (.lst (last.map V.int)) L = some (.lst (last.map V.int)) := upd_same
  generalize upd H L (.lst (last.map V.int)) = H1 at sL hp1 d1 eL ⊢
  walk_at "st"
  walk_at "sq"
  walk_at "st"
  refine ixA_tup (.of hp1.p) ix2 ?_
  refine ⟨Ma, _, rfl, .inl (.of hp1.ma), fun M hM => ?_⟩
  have sM := Same.new (o := .lst (us.map V.ref)) hM
  have fH : H M = none := by
    cases w : H M with
    | none => rfl
    | some o => rw [sL _ _ w] at hM; cases hM
  have S0 : SpA (upd H1 M (.lst (us.map V.ref))) d L M k us last ms := ⟨d1.same sM, sM _ _ eL, upd_same, hp1.mv.keep fun u xs e => sM _ _ e, nL1, dn d1 hM, ne_of_none eL hM, pk⟩
  have s02 := sL.trans sM
  have npL : L ≠ pa := fun e => by rw [e, hp.p] at hL; cases hL
  clear hp1 d1 eL sL sM hM
  generalize upd H1 M (.lst (us.map V.ref)) = H2 at S0 s02 ⊢
  walk_at "st"
  walk_at "sq"
  walk_at "st"
  refine pick_ok (by decide) S0.dr fun far H3 f0 f1 k3 d3 => ?_
  have S3 := S0.keep k3 d3
  have kk3 : Keep d H H3 := (Keep.same s02).trans k3
  walk_at "st"
  walk_at "sq"
  walk_at "st"
  intro p4 hp4
  have s4 := Same.new (o := .lst [V.int (-1 - far), V.int (n + far)]) hp4
  have e4 : upd H3 p4 (.lst [V.int (-1 - far), V.int (n + far)]) p4 = some (.lst [V.int (-1 - far), V.int (n + far)]) := upd_same
  have n4 := dn S3.dr hp4
  have S4 := S3.same s4
  have kk4 := kk3.trans (Keep.same s4)
  clear s4 hp4
  generalize upd H3 p4 (.lst [V.int (-1 - far), V.int (n + far)]) = H4 at e4 S4 kk4 ⊢
  walk_at "st"
  refine pick_ok (by decide) S4.dr fun r5 H5 a0 a1 k5 d5 => ?_
  obtain ⟨out, eo⟩ := at2 (-1 - far) (n + far) a0 a1
  refine ixA_lst (.of (k5 _ _ n4 e4)) eo ?_
  have S5 := S4.keep k5 d5
  have kk5 := kk4.trans k5
  clear S0 S3 S4 k3 d3 k5 d5 e4 eo
  walk_at "st"
  walk_at "sq"
  walk_at "st"
  refine pick_ok (by decide) S5.dr fun kind H6 b0 b1 k6 d6 => ?_
  have S6 := S5.keep k6 d6
  have kk6 := kk5.trans k6
  walk_at "st"
  walk_at "sq"
  walk_at "st"
  refine lenA_lst (.of S6.m) ?_
  rw [List.length_map]
  have ul : us.length = ms.length := S6.mv.l
  have m9 := pk.m
  have l9 := pk.l
  walk_at "st"
  refine pick_ok (by omega) S6.dr fun atp H7 c0 c1 k7 d7 => ?_
  have S7 := S6.keep k7 d7
  have kk7 := kk6.trans k7
  clear S5 S6 k6 d6 k7 d7 kk5 kk6 kk4 kk3
  walk_at "st"
  have fin : ∀ {H8 : Hp} {us' : List Addr} {n' : Int} {last' : List Int} {ms' : List Mv} {p : Addr}, SpA H8 d L M (k + 1) us' last' ms' → Keep d H H8 → H8 p = none → Q (.ref p) (upd H8 p (.tup [.int n', .ref L, .ref M])) := fun {H8 us' n' last' ms' p} S c hpn => by
    have sp := Same.new (o := .tup [V.int n', V.ref L, V.ref M]) hpn
    have S' := S.same sp
    exact h p L M us' n' last' ms' _ (c.trans (Keep.same sp)) S'.dr ⟨upd_same, S'.l, S'.m, S'.mv⟩ S.nL S.nM S.pk
  have up : ∀ {H8 : Hp} {us' : List Addr} {last' : List Int} {ms' : List Mv}, SpA H8 d L M k us' last' ms' → SpA H8 d L M (k + 1) us' last' ms' := fun S => ⟨S.dr, S.l, S.m, S.mv, S.nL, S.nM, S.ne, S.pk.up⟩
  have hM0 : H M = none := fH
  walk_at "sq"
  walk_at "st"
  by_cases q0 : kind = 0
  · refine rd_iteB (decide_eq_true q0) ?_
    walk_at "st"
    intro p8 hp8
    have s8 := Same.new (o := .lst [V.int 0, V.int (0 - far), V.int 41, V.int (41 + far)]) hp8
    have e8 : upd H7 p8 (.lst [V.int 0, V.int (0 - far), V.int 41, V.int (41 + far)]) p8 = some (.lst [V.int 0, V.int (0 - far), V.int 41, V.int (41 + far)]) := upd_same
    have n8 := dn S7.dr hp8
    have S8 := S7.same s8
    have kk8 := kk7.trans (Keep.same s8)
    generalize upd H7 p8 (.lst [V.int 0, V.int (0 - far), V.int 41, V.int (41 + far)]) = H8 at e8 S8 kk8 ⊢
    walk_at "st"
    refine pick_ok (by decide) S8.dr fun r9 H9 a0 a1 k9 d9 => ?_
    obtain ⟨o, eo⟩ := at4 0 (0 - far) 41 (41 + far) a0 a1
    refine ixA_lst (.of (k9 _ _ n8 e8)) eo ?_
    walk_at "st"
    intro p hpn
    exact fin (up (S8.keep k9 d9)) (kk8.trans k9) hpn
  refine rd_iteC (decide_eq_false q0) ?_
  walk_at "st"
  walk_at "sq"
  walk_at "st"
  by_cases q1 : kind = 1
  · refine rd_iteB (decide_eq_true q1) ?_
    subst q1
    walk_at "st"
    refine ⟨tyL S7.l, ?_⟩
    walk_at "st"
    refine lenA_lst (.of S7.l) ?_
    rw [List.length_map]
    walk_at "st"
    refine pick_ok (by omega) S7.dr fun r9 H9 a0 a1 k9 d9 => ?_
    have S9 := S7.keep k9 d9
    walk_at "st"
    refine insert_go S9.l (by rw [List.length_map]; omega) a0 (by omega) ?_
    have SA := S9.putL r9.toNat out
    have kkA : Keep d H (upd H9 L (.lst ((last.map V.int).take r9.toNat ++ [V.int out] ++ (last.map V.int).drop r9.toNat))) := fun b o nb e => by
      rw [upd_ne (ne_of_none e hL)]
      exact k9 _ _ nb (kk7 _ _ nb e)
    generalize upd H9 L (.lst ((last.map V.int).take r9.toNat ++ [V.int out] ++ (last.map V.int).drop r9.toNat)) = HA at SA kkA ⊢
    walk_at "st"
    walk_at "sq"
    walk_at "st"
    walk_at "sq"
    walk_at "st"
    walk_at "sq"
    walk_at "st"
    walk_at "sq"
    walk_at "st"
    intro p hpn
    exact fin SA kkA hpn
  refine rd_iteC (decide_eq_false q1) ?_
  walk_at "st"
  walk_at "sq"
  walk_at "st"
  have len3 : ∀ {j : Int}, 0 ≤ j → j < 3 → ∃ c, atI (tx sg).cps.toList j = some c ∧ c ∈ letters := fun {j} j0 j1 => by
    obtain ⟨jn, rfl⟩ : ∃ jn : Nat, j = jn := ⟨j.toNat, by omega⟩
    have hj : jn < sg.length := by omega
    exact ⟨sg[jn], atI_nat (j := jn) (v := sg[jn]) (by rw [tx_toList]; exact List.getElem?_eq_getElem hj), hl _ (List.getElem_mem hj)⟩
  have zsg : (tx sg).length ≤ sizeLine := by rw [tx_len]; exact small2 (by omega)
  have putK : ∀ {H8 : Hp} {xs : List V}, Keep d H H8 → Keep d H (upd H8 M (.lst xs)) := fun {H8 xs} c b o nb e => by
    rw [upd_ne (ne_of_none e hM0)]
    exact c _ _ nb e
  by_cases q2 : kind = 2
  · refine rd_iteB (decide_eq_true q2) ?_
    subst q2
    walk_at "st"
    refine ⟨tyL S7.m, ?_⟩
    walk_at "st"
    refine pick_ok (by decide) S7.dr fun r9 H9 a0 a1 k9 d9 => ?_
    obtain ⟨c, ec, hc⟩ := len3 a0 a1
    refine ixA_str zsg ec ?_
    have S9 := S7.keep k9 d9
    have kk9 := kk7.trans k9
    walk_at "st"
    intro tp htp
    have st := Same.new (o := .tup [V.int out, V.str ⟨#[c]⟩, V.int 0]) htp
    have SB := S9.same st
    walk_at "st"
    refine insert_go SB.m (by rw [List.length_map]; omega) c0 (by omega) ?_
    have SA := SB.putM (m := (out, tx [c], 0)) atp.toNat upd_same (.sg ⟨c, hc, rfl⟩)
    have kkA := putK (kk9.trans (Keep.same st)) (xs := (us.map V.ref).take atp.toNat ++ [V.ref tp] ++ (us.map V.ref).drop atp.toNat)
    generalize upd (upd H9 tp (.tup [V.int out, V.str ⟨#[c]⟩, V.int 0])) M (.lst ((us.map V.ref).take atp.toNat ++ [V.ref tp] ++ (us.map V.ref).drop atp.toNat)) = HA at SA kkA ⊢
    walk_at "st"
    walk_at "sq"
    walk_at "st"
    walk_at "sq"
    walk_at "st"
    walk_at "sq"
    walk_at "st"
    intro p hpn
    exact fin SA kkA hpn
  refine rd_iteC (decide_eq_false q2) ?_
  walk_at "st"
  walk_at "sq"
  walk_at "st"
  by_cases q3 : kind = 3
  · refine rd_iteB (decide_eq_true q3) ?_
    subst q3
    walk_at "st"
    refine ⟨tyL S7.m, ?_⟩
    walk_at "st"
    refine pick_ok (by decide) S7.dr fun r9 H9 a0 a1 k9 d9 => ?_
    obtain ⟨c, ec, hc⟩ := len3 a0 a1
    refine ixA_str zsg ec ?_
    have S9 := S7.keep k9 d9
    have kk9 := kk7.trans k9
    walk_at "st"
    intro tp htp
    have st := Same.new (o := .tup [V.int 0, V.str ⟨#[c]⟩, V.int out]) htp
    have SB := S9.same st
    walk_at "st"
    refine insert_go SB.m (by rw [List.length_map]; omega) c0 (by omega) ?_
    have SA := SB.putM (m := (0, tx [c], out)) atp.toNat upd_same (.sg ⟨c, hc, rfl⟩)
    have kkA := putK (kk9.trans (Keep.same st)) (xs := (us.map V.ref).take atp.toNat ++ [V.ref tp] ++ (us.map V.ref).drop atp.toNat)
    generalize upd (upd H9 tp (.tup [V.int 0, V.str ⟨#[c]⟩, V.int out])) M (.lst ((us.map V.ref).take atp.toNat ++ [V.ref tp] ++ (us.map V.ref).drop atp.toNat)) = HA at SA kkA ⊢
    walk_at "st"
    walk_at "sq"
    walk_at "st"
    walk_at "sq"
    walk_at "st"
    intro p hpn
    exact fin SA kkA hpn
  refine rd_iteC (decide_eq_false q3) ?_
  walk_at "st"
  walk_at "sq"
  walk_at "st"
  by_cases q4 : kind = 4
  · refine rd_iteB (decide_eq_true q4) ?_
    subst q4
    walk_at "sq"
    walk_at "st"
    obtain ⟨x0, ex0, hx0⟩ := len3 (j := 0) (by decide) (by decide)
    obtain ⟨x1, ex1, hx1⟩ := len3 (j := 1) (by decide) (by decide)
    obtain ⟨x2, ex2, hx2⟩ := len3 (j := 2) (by decide) (by decide)
    refine ixA_str zsg ex0 ?_
    walk_at "st"
    refine ixA_str zsg ex1 ?_
    refine addA_str (by show ((tx [x0]).length + (tx [x1]).length : Nat) ≤ _; rw [tx_len, tx_len]; exact small2 (by simp)) ?_
    rw [show (⟨#[x0]⟩ : Str) = tx [x0] from rfl, show (⟨#[x1]⟩ : Str) = tx [x1] from rfl, tx_app]
    walk_at "st"
    refine odd3_ok S7.dr fun c1 H9 h1 h1' k9 d9 => ?_
    have S9 := S7.keep k9 d9
    walk_at "st"
    refine ixA_str zsg ex2 ?_
    walk_at "st"
    refine odd3_ok S9.dr fun c2 H10 h2 h2' k10 d10 => ?_
    have S10 := S9.keep k10 d10
    refine addA_str (by show ((tx [x2]).length + (tx [c2]).length : Nat) ≤ _; rw [tx_len, tx_len]; exact small2 (by simp)) ?_
    rw [show (⟨#[x2]⟩ : Str) = tx [x2] from rfl, tx_app]
    walk_at "st"
    intro p8 hp8
    have s8 := Same.new (o := .lst [V.str (Str.ofString ""), V.str (tx ([x0] ++ [x1])), V.str (tx [c1]), V.str (tx ([x2] ++ [c2]))]) hp8
    have e8 : upd H10 p8 (.lst [V.str (Str.ofString ""), V.str (tx ([x0] ++ [x1])), V.str (tx [c1]), V.str (tx ([x2] ++ [c2]))]) p8 = some (.lst [V.str (Str.ofString ""), V.str (tx ([x0] ++ [x1])), V.str (tx [c1]), V.str (tx ([x2] ++ [c2]))]) := upd_same
    have n8 := dn S10.dr hp8
    have S8 := S10.same s8
    have kk8 := ((kk7.trans k9).trans k10).trans (Keep.same s8)
    generalize upd H10 p8 (.lst [V.str (Str.ofString ""), V.str (tx ([x0] ++ [x1])), V.str (tx [c1]), V.str (tx ([x2] ++ [c2]))]) = H8 at e8 S8 kk8 ⊢
    walk_at "st"
    refine pick_ok (by decide) S8.dr fun r9 HB a0 a1 kB dB => ?_
    obtain ⟨z, ez, hz⟩ := at4s (P := fun z => SmM (0, z, 0)) (a := Str.ofString "") (b := tx ([x0] ++ [x1])) (c := tx [c1]) (e := tx ([x2] ++ [c2])) (by rw [show Str.ofString "" = tx [] from by decide +kernel]; exact .of (by simp) fun _ h => (nomatch h))
      (.of (by simp) fun c hc => by
        rcases List.mem_cons.mp hc with w | w
        · rw [w]; exact letters_small _ hx0
        · rw [List.mem_singleton.mp w]; exact letters_small _ hx1)
      (.of (by simp) fun c hc => by rw [List.mem_singleton.mp hc]; exact h1')
      (.of (by simp) fun c hc => by
        rcases List.mem_cons.mp hc with w | w
        · rw [w]; exact letters_small _ hx2
        · rw [List.mem_singleton.mp w]; exact h2') a0 a1
    refine ixA_lst (.of (kB _ _ n8 e8)) ez ?_
    have SC := S8.keep kB dB
    have kkC := kk8.trans kB
    walk_at "st"
    refine ⟨tyL SC.m, ?_⟩
    walk_at "st"
    intro tp htp
    have st := Same.new (o := .tup [V.int 0, V.str z, V.int 0]) htp
    have SB := SC.same st
    walk_at "st"
    refine insert_go SB.m (by rw [List.length_map]; omega) c0 (by omega) ?_
    have SA := SB.putM (m := (0, z, 0)) atp.toNat upd_same hz
    have kkA := putK (kkC.trans (Keep.same st)) (xs := (us.map V.ref).take atp.toNat ++ [V.ref tp] ++ (us.map V.ref).drop atp.toNat)
    generalize upd (upd HB tp (.tup [V.int 0, V.str z, V.int 0])) M (.lst ((us.map V.ref).take atp.toNat ++ [V.ref tp] ++ (us.map V.ref).drop atp.toNat)) = HA at SA kkA ⊢
    walk_at "st"
    walk_at "sq"
    walk_at "st"
    intro p hpn
    exact fin SA kkA hpn
  refine rd_iteC (decide_eq_false q4) ?_
  walk_at "st"
  walk_at "sq"
  walk_at "st"
  intro N0 hN0
  have sN := Same.new (o := .lst []) hN0
  walk_at "st"
  have S8 := S7.same sN
  have kk8 := kk7.trans (Keep.same sN)
  refine neA_mvsNil' S8.m S8.mv pk.s upd_same ?_
  clear sN hN0
  generalize upd H7 N0 (.lst []) = H8 at S8 kk8 ⊢
  walk_at "st"
  by_cases me : ms = []
  · refine rd_iteC (by rw [me]; rfl) ?_
    walk_at "st"
    intro p hpn
    exact fin (up S8) kk8 hpn
  refine rd_iteB (by cases ms with | nil => exact absurd rfl me | cons _ _ => rfl) ?_
  have m0 : 0 < ms.length := List.length_pos_iff.mpr me
  walk_at "sq"
  walk_at "st"
  refine lenA_lst (.of S8.m) ?_
  rw [List.length_map]
  walk_at "st"
  refine pick_ok (by omega) S8.dr fun r9 H9 a0 a1 k9 d9 => ?_
  have S9 := S8.keep k9 d9
  have kk9 := kk8.trans k9
  obtain ⟨jn, rfl⟩ : ∃ jn : Nat, r9 = jn := ⟨r9.toNat, by omega⟩
  have hj : jn < us.length := by omega
  have hj2 : jn < ms.length := by omega
  refine ixA_lst (.of S9.m) (atI_nat (j := jn) (v := V.ref us[jn]) (by rw [List.getElem?_map, List.getElem?_eq_getElem hj]; rfl)) ?_
  have eu := S9.mv.g jn _ _ (List.getElem?_eq_getElem hj) (List.getElem?_eq_getElem hj2)
  have sm := pk.s ms[jn] (List.getElem_mem hj2)
  generalize us[jn] = u at eu ⊢
  generalize ms[jn] = m at eu sm
  obtain ⟨ma, mz, mb⟩ := m
  walk_at "st"
  refine ⟨tyL S9.m, ?_⟩
  walk_at "st"
  refine ixA_tup (.of eu) ix0 ?_
  walk_at "st"
  refine ixA_tup (.of eu) ix1 ?_
  walk_at "st"
  refine ixA_tup (.of eu) ix2 ?_
  walk_at "st"
  intro tp htp
  have st := Same.new (o := .tup [V.int ma, V.str mz, V.int ((mb + 1) % n)]) htp
  have SB := S9.same st
  walk_at "st"
  refine insert_go SB.m (by rw [List.length_map]; omega) c0 (by omega) ?_
  have SA := SB.putM (m := (ma, mz, (mb + 1) % n)) atp.toNat upd_same sm
  have kkA := putK (kk9.trans (Keep.same st)) (xs := (us.map V.ref).take atp.toNat ++ [V.ref tp] ++ (us.map V.ref).drop atp.toNat)
  generalize upd (upd H9 tp (.tup [V.int ma, V.str mz, V.int ((mb + 1) % n)])) M (.lst ((us.map V.ref).take atp.toNat ++ [V.ref tp] ++ (us.map V.ref).drop atp.toNat)) = HA at SA kkA ⊢
  walk_at "st"
  intro p hpn
  exact fin SA kkA hpn
/-! _law_try_make, _law_named -/
theorem atl (f : Str) (v : V) : List.lookup f [(f, v)] = some v := by simp [List.lookup]
theorem try_make_ok {P : Program} {mg : Str → Option Value} (T : Txt P K mg) {la ma : Addr} {n : Int} {last : List Int} {ms : List Mv} {us : List Addr} {H : Hp} {Q : VK} {E : XK}
    (hla : H la = some (.lst (last.map V.int))) (hma : H ma = some (.lst (us.map V.ref))) (hus : MvsAt H us ms) (hz : ∀ m ∈ ms, m.2.1.cps.size ≤ 1000) (z1 : last.length ≤ 1000) (z2 : ms.length ≤ 1000)
    (h : ∀ p s v H', Due n last ms s v → Same H H' → H' p = some (.tup [.str s, .int v]) → Q (.ref p) H') : sp_law_try_make K [.int n, .ref la, .ref ma] H Q E := by
  refine ⟨rfl, ?_⟩
  unfold t_law_try_make
  walk_at "sq"
  refine rd_try ?_
  walk_at "st"
  intro l dx hl hdx hne
  have fr : H l = none := hl
  have s0 : ∀ b o, H b = some o → upd (upd H dx (.own l)) l (.ins (He.ga K "Lot") dx []) b = some o := fun b o e => by
    rw [upd_ne (ne_of_none e hl), upd_ne (ne_of_none e hdx)]
    exact e
  have kS : ∀ {H3 : Hp}, Keep l (upd (upd H dx (.own l)) l (.ins (He.ga K "Lot") dx [])) H3 → Same H H3 := fun k b o e => k b o (ne_of_none e hl) (s0 b o e)
  refine lot_init_out T upd_same (s0 _ _ hla) (s0 _ _ hma) (hus.keep fun u xs e => s0 _ _ e) hz z1 z2 (fun ng H3 k3 => ?_) (fun g i i0 i1 lo no H3 d k3 hd => ?_) fun g al tT F tab fin H3 k3 fT fF lat tb mf pf => ⟨rfl, ?_⟩
  · refine mix_miss T.e_BadLot_Useless ?_
    refine mix_hit T.e_BadLot_BadLot fun a ha => ?_
    walk_at "st"
    intro p hp
    exact h p _ _ _ (.bad ng) ((kS k3).trans (Same.new hp)) upd_same
  · refine mix_hit T.e_Useless_Useless fun a ha => ?_
    walk_at "st"
    refine ⟨rfl, rfl, d, _, _, rfl, upd_same, atl _ _, ?_⟩
    walk_at "st"
    intro p hp
    exact h p _ _ _ (.useless g i0 i1 lo no) (((kS k3).trans (Same.new hd)).trans (Same.new hp)) upd_same
  · obtain ⟨dx2, el⟩ := lat.i
    walk_at "st"
    refine ⟨l, dx2, _, rfl, el, lot_states_ok T lat ?_⟩
    walk_at "st"
    intro p hp
    exact h p _ _ _ (.lot g al) ((kS k3).trans (Same.new hp)) upd_same
/-- what Lot.only tells of some texts -/
inductive Nm (ws : List (List Nat)) : Str → Int → Prop
  | sign {j : Nat} {w : List Nat} : ws[j]? = some w → 0 ≤ fo w → (∀ (i : Nat) w', i < j → ws[i]? = some w' → fo w' = -1) → Nm ws "sign" (fo w)
  | bad {ns : List (List Nat)} : Names ws ns → (∀ w ∈ ws, ∀ c ∈ w, c ∈ letters) → 40 < ns.length → Nm ws "bad" 0
  | lot {ns : List (List Nat)} : Names ws ns → (∀ w ∈ ws, ∀ c ∈ w, c ∈ letters) → ns.length ≤ 40 → Nm ws "lot" ns.length
theorem only_star {P : Program} {mg : Str → Option Value} (T : Txt P K mg) {ws : List (List Nat)} {vs : List V} {H : Hp} {Q : VK} {E : XK} (ev : vs = .ref (He.ga K "Lot") :: ws.map fun w => V.str (tx w)) (w0 : ws ≠ []) (h4 : ∀ w ∈ ws, w.length ≤ 50) (hn : ws.length ≤ 4)
    (hS : ∀ v, Nm ws "sign" v → ∀ H' d, Same H H' → H' d = none → E (.ref (He.ga K "BadSign")) (some d) (upd H' d (.xd [("at", .int v)])))
    (hB : Nm ws "bad" 0 → ∀ H', Same H H' → E (.ref (He.ga K "BadLot")) none H')
    (hL : ∀ v, Nm ws "lot" v → ∀ l tT F tab fin H', Same H H' → LotAt K H' l tT F v tab fin → Q (.ref l) H') : spStar 1 (sp_Lot_only K) vs H Q E := by
  subst ev
  obtain ⟨ns, nm⟩ := names_ex ws
  refine ⟨[.ref (He.ga K "Lot")], ws.map fun w => V.str (tx w), rfl, rfl, small2 (by rw [List.length_map]; omega), fun p hp => ?_⟩
  have s0 := Same.new (o := .tup (ws.map fun w => V.str (tx w))) hp
  exact lot_only_out T upd_same nm w0 h4 hn (fun j w e f lo H' d s hd => hS _ (.sign e f lo) H' d (s0.trans s) hd) (fun al c H' s => hB (.bad nm al c) H' (s0.trans s)) fun al c l tT F tab fin H' s _ lat => hL _ (.lot nm al c) l tT F tab fin H' (s0.trans s) lat
theorem rep1 (c k : Nat) : repS (tx [c]) k = tx (List.replicate k c) := by
  unfold repS
  rw [tx_toList]
  show (⟨_⟩ : Str) = ⟨_⟩
  congr 2
  induction k with
  | zero => rfl
  | succ k ih => rw [List.replicate_succ, List.replicate_succ, List.flatten_cons, ih]; rfl
theorem named1_ok {P : Program} {mg : Str → Option Value} (T : Txt P K mg) {t : List Nat} {H : Hp} {Q : VK} {E : XK} (tl : t.length ≤ 45)
    (h : ∀ p s v H', Nm [t] s v → Same H H' → H' p = some (.tup [.str s, .int v]) → Q (.ref p) H') : sp_law_named K [.int 1, .str (tx t)] H Q E := by
  refine ⟨rfl, ?_⟩
  unfold t_law_named
  walk_at "sq"
  refine rd_try ?_
  walk_at "st"
  refine ⟨rfl, ?_⟩
  walk_at "st"
  refine only_star T (ws := [t]) (rfl) (by simp) (fun w hw => ?_) (by simp) (fun v q H3 d s3 hd => ?_) (fun q H3 s3 => ?_) fun v q l tT F tab fin H3 s3 lat => ?_
  · rw [List.mem_singleton.mp hw]; omega
  · refine mix_hit T.e_BadSign_BadSign fun a ha => ?_
    walk_at "st"
    refine ⟨rfl, rfl, d, _, _, rfl, upd_same, atl _ _, ?_⟩
    walk_at "st"
    intro p hp
    exact h p _ _ _ q ((s3.trans (Same.new hd)).trans (Same.new hp)) upd_same
  · refine mix_miss T.e_BadLot_BadSign ?_
    refine mix_hit T.e_BadLot_BadLot fun a ha => ?_
    walk_at "st"
    intro p hp
    exact h p _ _ _ q (s3.trans (Same.new hp)) upd_same
  · obtain ⟨dx2, el⟩ := lat.i
    walk_at "st"
    refine ⟨l, dx2, _, rfl, el, lot_states_ok T lat ?_⟩
    walk_at "st"
    intro p hp
    exact h p _ _ _ q (s3.trans (Same.new hp)) upd_same
theorem named2_ok {P : Program} {mg : Str → Option Value} (T : Txt P K mg) {t : List Nat} {H : Hp} {Q : VK} {E : XK} (tl : t.length ≤ 45)
    (h : ∀ p s v H', Nm [[97, 98], t, [99], t ++ [90]] s v → Same H H' → H' p = some (.tup [.str s, .int v]) → Q (.ref p) H') : sp_law_named K [.int 2, .str (tx t)] H Q E := by
  refine ⟨rfl, ?_⟩
  unfold t_law_named
  walk_at "sq"
  refine rd_try ?_
  walk_at "st"
  refine ⟨rfl, ?_⟩
  walk_at "st"
  have zl : (Str.ofString "Z").length = 1 := by decide +kernel
  refine addA_str (by rw [tx_len, zl]; exact small2 (by omega)) ?_
  rw [show (Str.ofString "Z") = tx [90] from by decide +kernel, tx_app]
  walk_at "st"
  refine only_star T (ws := [[97, 98], t, [99], t ++ [90]]) (by rw [show (Str.ofString "ab") = tx [97, 98] from by decide +kernel, show (Str.ofString "c") = tx [99] from by decide +kernel]; rfl) (by simp) (fun w hw => ?_) (by simp) (fun v q H3 d s3 hd => ?_) (fun q H3 s3 => ?_) fun v q l tT F tab fin H3 s3 lat => ?_
  · rcases List.mem_cons.mp hw with e | hw
    · rw [e]; decide
    rcases List.mem_cons.mp hw with e | hw
    · rw [e]; omega
    rcases List.mem_cons.mp hw with e | hw
    · rw [e]; decide
    · rw [List.mem_singleton.mp hw, List.length_append]; simp; omega
  · refine mix_hit T.e_BadSign_BadSign fun a ha => ?_
    walk_at "st"
    refine ⟨rfl, rfl, d, _, _, rfl, upd_same, atl _ _, ?_⟩
    walk_at "st"
    intro p hp
    exact h p _ _ _ q ((s3.trans (Same.new hd)).trans (Same.new hp)) upd_same
  · refine mix_miss T.e_BadLot_BadSign ?_
    refine mix_hit T.e_BadLot_BadLot fun a ha => ?_
    walk_at "st"
    intro p hp
    exact h p _ _ _ q (s3.trans (Same.new hp)) upd_same
  · obtain ⟨dx2, el⟩ := lat.i
    walk_at "st"
    refine ⟨l, dx2, _, rfl, el, lot_states_ok T lat ?_⟩
    walk_at "st"
    intro p hp
    exact h p _ _ _ q (s3.trans (Same.new hp)) upd_same
theorem named4_ok {P : Program} {mg : Str → Option Value} (T : Txt P K mg) {t : List Nat} {H : Hp} {Q : VK} {E : XK} (tl : t.length ≤ 45)
    (h : ∀ p s v H', Nm [List.replicate 41 121, [], t] s v → Same H H' → H' p = some (.tup [.str s, .int v]) → Q (.ref p) H') : sp_law_named K [.int 4, .str (tx t)] H Q E := by
  refine ⟨rfl, ?_⟩
  unfold t_law_named
  walk_at "sq"
  refine rd_try ?_
  walk_at "st"
  refine ⟨rfl, ?_⟩
  walk_at "st"
  refine mulA_str (by decide) (by decide) (by decide +kernel) ?_
  rw [show (Str.ofString "y") = tx [121] from by decide +kernel, rep1]
  walk_at "st"
  refine only_star T (ws := [List.replicate 41 121, [], t]) (by rw [show (Str.ofString "") = tx [] from by decide +kernel]; rfl) (by simp) (fun w hw => ?_) (by simp) (fun v q H3 d s3 hd => ?_) (fun q H3 s3 => ?_) fun v q l tT F tab fin H3 s3 lat => ?_
  · rcases List.mem_cons.mp hw with e | hw
    · rw [e]; decide
    rcases List.mem_cons.mp hw with e | hw
    · rw [e]; decide
    · rw [List.mem_singleton.mp hw]; omega
  · refine mix_hit T.e_BadSign_BadSign fun a ha => ?_
    walk_at "st"
    refine ⟨rfl, rfl, d, _, _, rfl, upd_same, atl _ _, ?_⟩
    walk_at "st"
    intro p hp
    exact h p _ _ _ q ((s3.trans (Same.new hd)).trans (Same.new hp)) upd_same
  · refine mix_miss T.e_BadLot_BadSign ?_
    refine mix_hit T.e_BadLot_BadLot fun a ha => ?_
    walk_at "st"
    intro p hp
    exact h p _ _ _ q (s3.trans (Same.new hp)) upd_same
  · obtain ⟨dx2, el⟩ := lat.i
    walk_at "st"
    refine ⟨l, dx2, _, rfl, el, lot_states_ok T lat ?_⟩
    walk_at "st"
    intro p hp
    exact h p _ _ _ q (s3.trans (Same.new hp)) upd_same
theorem named5_ok {P : Program} {mg : Str → Option Value} (T : Txt P K mg) {t : List Nat} {H : Hp} {Q : VK} {E : XK} (tl : t.length ≤ 45)
    (h : ∀ p s v H', Nm [List.replicate 20 121, List.replicate 20 122, t] s v → Same H H' → H' p = some (.tup [.str s, .int v]) → Q (.ref p) H') : sp_law_named K [.int 5, .str (tx t)] H Q E := by
  refine ⟨rfl, ?_⟩
  unfold t_law_named
  walk_at "sq"
  refine rd_try ?_
  walk_at "st"
  refine ⟨rfl, ?_⟩
  walk_at "st"
  refine mulA_str (by decide) (by decide) (by decide +kernel) ?_
  rw [show (Str.ofString "y") = tx [121] from by decide +kernel, rep1]
  walk_at "st"
  refine mulA_str (by decide) (by decide) (by decide +kernel) ?_
  rw [show (Str.ofString "z") = tx [122] from by decide +kernel, rep1]
  walk_at "st"
  refine only_star T (ws := [List.replicate 20 121, List.replicate 20 122, t]) (rfl) (by simp) (fun w hw => ?_) (by simp) (fun v q H3 d s3 hd => ?_) (fun q H3 s3 => ?_) fun v q l tT F tab fin H3 s3 lat => ?_
  · rcases List.mem_cons.mp hw with e | hw
    · rw [e]; decide
    rcases List.mem_cons.mp hw with e | hw
    · rw [e]; decide
    · rw [List.mem_singleton.mp hw]; omega
  · refine mix_hit T.e_BadSign_BadSign fun a ha => ?_
    walk_at "st"
    refine ⟨rfl, rfl, d, _, _, rfl, upd_same, atl _ _, ?_⟩
    walk_at "st"
    intro p hp
    exact h p _ _ _ q ((s3.trans (Same.new hd)).trans (Same.new hp)) upd_same
  · refine mix_miss T.e_BadLot_BadSign ?_
    refine mix_hit T.e_BadLot_BadLot fun a ha => ?_
    walk_at "st"
    intro p hp
    exact h p _ _ _ q (s3.trans (Same.new hp)) upd_same
  · obtain ⟨dx2, el⟩ := lat.i
    walk_at "st"
    refine ⟨l, dx2, _, rfl, el, lot_states_ok T lat ?_⟩
    walk_at "st"
    intro p hp
    exact h p _ _ _ q (s3.trans (Same.new hp)) upd_same
theorem named0_ok {P : Program} {mg : Str → Option Value} (T : Txt P K mg) {t : List Nat} {H : Hp} {Q : VK} {E : XK} (tl : t.length ≤ 45)
    (hS : 0 ≤ fo t → ∀ p H', Same H H' → H' p = some (.tup [.str "sign", .int (fo t)]) → Q (.ref p) H')
    (hL : (∀ c ∈ t, c ∈ letters) → ∀ p H', Same H H' → H' p = some (.tup [.str "lot", .int 1]) → Q (.ref p) H') : sp_law_named K [.int 0, .str (tx t)] H Q E := by
  refine ⟨rfl, ?_⟩
  unfold t_law_named
  walk_at "sq"
  refine rd_try ?_
  walk_at "st"
  refine ⟨rfl, ?_⟩
  walk_at "st"
  refine lot_every_out T (by omega) (fun q H3 d s3 hd => ?_) fun al l tT F tab fin H3 s3 _ lat => ?_
  · refine mix_hit T.e_BadSign_BadSign fun a ha => ?_
    walk_at "st"
    refine ⟨rfl, rfl, d, _, _, rfl, upd_same, atl _ _, ?_⟩
    walk_at "st"
    intro p hp
    exact hS q p _ ((s3.trans (Same.new hd)).trans (Same.new hp)) upd_same
  · obtain ⟨dx2, el⟩ := lat.i
    walk_at "st"
    refine ⟨l, dx2, _, rfl, el, lot_states_ok T lat ?_⟩
    walk_at "st"
    intro p hp
    exact hL al p _ (s3.trans (Same.new hp)) upd_same
theorem named3_ok {P : Program} {mg : Str → Option Value} (T : Txt P K mg) {t : List Nat} {H : Hp} {Q : VK} {E : XK}
    (h : ∀ p H', Same H H' → H' p = some (.tup [.str "bad", .int 0]) → Q (.ref p) H') : sp_law_named K [.int 3, .str (tx t)] H Q E := by
  refine ⟨rfl, ?_⟩
  unfold t_law_named
  walk_at "sq"
  refine rd_try ?_
  walk_at "st"
  refine ⟨rfl, ?_⟩
  walk_at "st"
  refine ⟨[.ref (He.ga K "Lot")], [], rfl, rfl, Nat.zero_le _, fun p hp => ?_⟩
  refine lot_only_none T upd_same ?_
  refine mix_miss T.e_BadLot_BadSign ?_
  refine mix_hit T.e_BadLot_BadLot fun a ha => ?_
  walk_at "st"
  intro p2 hp2
  exact h p2 _ ((Same.new hp).trans (Same.new hp2)) upd_same
def t_ke (K : Frg) (E : XK) : TS :=
  (tSeq (tIfS (tOr (tTest (tOp (rNeA K) (tCallSD (sp_law_named K) [] (WE (W0 E)) (tCons (tC (.int 1)) (tCons (tOp rMulA (tOp (rIx K) (tVar 2) (tC (.int 0))) (tVar 11)) tNil))) (tVar 6))) (tTest (tOp (rNeA K) (tCallSD (sp_law_named K) [] (WE (W0 E)) (tCons (tC (.int 0)) (tCons (tVar 2) tNil))) (tTup (tCons (tC (.str "lot")) (tCons (tC (.int 1)) tNil)))))) (tRet (tC (.bl false))) tNext) (tRet (tAndV (tOp (rEqA K) (tCallSD (sp_law_named K) [] (WE (W0 E)) (tCons (tC (.int 3)) (tCons (tC (.str "")) tNil))) (tTup (tCons (tC (.str "bad")) (tCons (tC (.int 0)) tNil)))) (tOp (rEqA K) (tCallSD (sp_law_named K) [] (WE (W0 E)) (tCons (tC (.int 0)) (tCons (tOp rMulA (tOp (rIx K) (tVar 2) (tC (.int 0))) (tVar 11)) tNil))) (tTup (tCons (tC (.str "lot")) (tCons (tC (.int 1)) tNil)))))))
def t_kd (K : Frg) (E : XK) : TS :=
  (tSeq (tFor (iList K (tLst (tCons (tC (.int 0)) (tCons (tC (.int 1)) (tCons (tC (.int 2)) (tCons (tC (.int 4)) (tCons (tC (.int 5)) tNil))))))) (gName 5) (tIfS (tTest (tOp (rNeA K) (tCallSD (sp_law_named K) [] (WE (W0 E)) (tCons (tVar 5) (tCons (tVar 9) tNil))) (tTup (tCons (tC (.str "sign")) (tCons (tVar 10) tNil))))) (tRet (tC (.bl false))) tNext)) (tSeq (tIfS (tOr (tTest (tOp (rNeA K) (tCallSD (sp_law_named K) [] (WE (W0 E)) (tCons (tC (.int 5)) (tCons (tC (.str "yy")) tNil))) (tTup (tCons (tC (.str "bad")) (tCons (tC (.int 0)) tNil))))) (tTest (tOp (rNeA K) (tCallSD (sp_law_named K) [] (WE (W0 E)) (tCons (tC (.int 5)) (tCons (tC (.str "zA")) tNil))) (tTup (tCons (tC (.str "sign")) (tCons (tC (.int 1)) tNil)))))) (tRet (tC (.bl false))) tNext) (tSeq (tAsg (tOp rAddA (tC (.int 38)) (tCallSD (sp_law_pick K) [] (WE (W0 E)) (tCons (tVar 1) (tCons (tC (.int 4)) tNil)))) (gName 11)) (tSeq (tAsg (tIf (tTest (tOp rLtA (tVar 11) (tC (.int 40)))) (tTup (tCons (tC (.str "lot")) (tCons (tOp rAddA (tVar 11) (tC (.int 1))) tNil))) (tTup (tCons (tC (.str "bad")) (tCons (tC (.int 0)) tNil)))) (gName 6)) (tSeq (tIfS (tOr (tTest (tOp (rNeA K) (tCallSD (sp_law_named K) [] (WE (W0 E)) (tCons (tC (.int 1)) (tCons (tOp rMulA (tOp (rIx K) (tVar 2) (tC (.int 0))) (tVar 11)) tNil))) (tVar 6))) (tTest (tOp (rNeA K) (tCallSD (sp_law_named K) [] (WE (W0 E)) (tCons (tC (.int 0)) (tCons (tVar 2) tNil))) (tTup (tCons (tC (.str "lot")) (tCons (tC (.int 1)) tNil)))))) (tRet (tC (.bl false))) tNext) (tRet (tAndV (tOp (rEqA K) (tCallSD (sp_law_named K) [] (WE (W0 E)) (tCons (tC (.int 3)) (tCons (tC (.str "")) tNil))) (tTup (tCons (tC (.str "bad")) (tCons (tC (.int 0)) tNil)))) (tOp (rEqA K) (tCallSD (sp_law_named K) [] (WE (W0 E)) (tCons (tC (.int 0)) (tCons (tOp rMulA (tOp (rIx K) (tVar 2) (tC (.int 0))) (tVar 11)) tNil))) (tTup (tCons (tC (.str "lot")) (tCons (tC (.int 1)) tNil)))))))))))
/-! what _law_named tells of the law's texts -/
theorem neA_si {p q : Addr} {z z' : Str} {i i' : Int} {H : Hp} {Q : VK} (hp : H p = some (.tup [.str z, .int i])) (hq : H q = some (.tup [.str z', .int i'])) (oz : PyData.strOk z = true) (oz' : PyData.strOk z' = true) (h : Q (.bl (!decide (z = z' ∧ i = i'))) H) : rNeA K (.ref p) (.ref q) H Q :=
  neA_data (siData hp) (siData hq) (shaped_si i oz) (shaped_si i' oz') (eqv_si z z' i i') h
theorem eqA_si {p q : Addr} {z z' : Str} {i i' : Int} {H : Hp} {Q : VK} (hp : H p = some (.tup [.str z, .int i])) (hq : H q = some (.tup [.str z', .int i'])) (oz : PyData.strOk z = true) (oz' : PyData.strOk z' = true) (h : Q (.bl (decide (z = z' ∧ i = i'))) H) : rEqA K (.ref p) (.ref q) H Q :=
  eqA_data (siData hp) (siData hq) (shaped_si i oz) (shaped_si i' oz') (eqv_si z z' i i') h
theorem ok_sign : PyData.strOk ("sign" : Str) = true := by decide +kernel
theorem ok_bad : PyData.strOk ("bad" : Str) = true := by decide +kernel
theorem ok_lot : PyData.strOk ("lot" : Str) = true := by decide +kernel
theorem ok_useless : PyData.strOk ("useless" : Str) = true := by decide +kernel
theorem fo_let {l : List Nat} (h : ∀ c ∈ l, c ∈ letters) : fo l = -1 := fo_none l fun j x e => h x (List.mem_of_getElem? e)
theorem Nm.odd {ws : List (List Nat)} {s : Str} {v : Int} {j0 : Nat} {t : List Nat} (q : Nm ws s v) (hj : ws[j0]? = some t) (ht : 0 ≤ fo t) (lo : ∀ (i : Nat) w', i < j0 → ws[i]? = some w' → fo w' = -1) : s = "sign" ∧ v = fo t := by
  cases q with
  | @sign j w e f lo' =>
    rcases Nat.lt_trichotomy j j0 with z | z | z
    · have := lo j w z e; omega
    · subst z
      rw [e] at hj
      cases hj
      exact ⟨rfl, rfl⟩
    · have := lo' j0 t z hj; omega
  | bad _ al _ => have := fo_let (al t (List.mem_of_getElem? hj)); omega
  | lot _ al _ => have := fo_let (al t (List.mem_of_getElem? hj)); omega
theorem names_one (w : List Nat) : Names [w] (pf w) := by
  refine ⟨fun p => ?_, ?_⟩
  · rw [pf_mem]
    exact ⟨fun h => ⟨w, List.mem_singleton.mpr rfl, h⟩, fun ⟨w', hw, h⟩ => by rw [List.mem_singleton.mp hw] at h; exact h⟩
  · unfold pf
    rw [List.pairwise_map]
    refine List.Pairwise.imp_of_mem (fun {a b} ha hb q => ?_) (List.pairwise_lt_range (n := w.length + 1))
    rw [List.mem_range] at ha hb
    unfold ltN
    rw [List.length_take, List.length_take, decide_eq_true (show min a w.length < min b w.length by omega)]
    rfl
theorem Nm.one {w : List Nat} {s : Str} {v : Int} (q : Nm [w] s v) (hl : ∀ c ∈ w, c ∈ letters) : (s = "lot" ∧ v = w.length + 1 ∧ w.length < 40) ∨ (s = "bad" ∧ v = 0 ∧ 40 ≤ w.length) := by
  have nl : ∀ {ns : List (List Nat)}, Names [w] ns → ns.length = w.length + 1 := fun nm => by
    rw [nm.uniq (names_one w)]
    simp [pf]
  cases q with
  | @sign j w' e f lo =>
    have : w' = w := List.mem_singleton.mp (List.mem_of_getElem? e)
    subst this
    have := fo_let hl
    omega
  | bad nm _ c => exact .inr ⟨rfl, rfl, by have := nl nm; omega⟩
  | lot nm _ c => exact .inl ⟨rfl, by rw [nl nm]; rfl, by have := nl nm; omega⟩
def manyL : List (List Nat) := (List.range 21).map (fun k => List.replicate k 121) ++ (List.range 20).map fun k => List.replicate (k + 1) 122
theorem many_nd : manyL.Nodup := by decide +kernel
theorem many_pf : ∀ p ∈ manyL, ∃ w ∈ [List.replicate 20 121, List.replicate 20 122, [121, 121]], p <+: w := by decide +kernel
theorem Nm.many {s : Str} {v : Int} (q : Nm [List.replicate 20 121, List.replicate 20 122, [121, 121]] s v) : s = "bad" ∧ v = 0 := by
  cases q with
  | @sign j w e f lo =>
    exfalso
    have hm := List.mem_of_getElem? e
    have : ∀ w ∈ [List.replicate 20 121, List.replicate 20 122, [121, 121]], fo w = -1 := by decide +kernel
    have := this w hm
    omega
  | bad _ _ _ => exact ⟨rfl, rfl⟩
  | @lot ns nm _ c =>
    exfalso
    have := nodup_len (l := manyL) (m := ns) many_nd fun p hp => (nm.mem p).mpr (many_pf p hp)
    have e : manyL.length = 41 := by decide +kernel
    omega
theorem named_odd {P : Program} {mg : Str → Option Value} (T : Txt P K mg) {t : List Nat} {k : Int} {H : Hp} {Q : VK} {E : XK} (hk : k ∈ ([0, 1, 2, 4, 5] : List Int)) (tl : t.length ≤ 45) (ht : 0 ≤ fo t)
    (h : ∀ p H', Same H H' → H' p = some (.tup [.str "sign", .int (fo t)]) → Q (.ref p) H') : sp_law_named K [.int k, .str (tx t)] H Q E := by
  have go : ∀ {ws : List (List Nat)} {j0 : Nat}, ws[j0]? = some t → (∀ (i : Nat) w', i < j0 → ws[i]? = some w' → fo w' = -1) → ∀ p s v H', Nm ws s v → Same H H' → H' p = some (.tup [.str s, .int v]) → Q (.ref p) H' := fun hj lo p s v H' q s' e => by
    obtain ⟨rfl, rfl⟩ := q.odd hj ht lo
    exact h p H' s' e
  simp only [List.mem_cons, List.not_mem_nil, or_false] at hk
  rcases hk with e | e | e | e | e
  · subst e
    exact named0_ok T tl (fun _ => h) fun al => by have := fo_let al; omega
  · subst e
    exact named1_ok T tl (go (j0 := 0) rfl fun i w' hi => absurd hi (Nat.not_lt_zero _))
  · subst e
    refine named2_ok T tl (go (j0 := 1) rfl fun i w' hi e => ?_)
    have : i = 0 := by omega
    subst this
    cases e
    decide +kernel
  · subst e
    refine named4_ok T tl (go (j0 := 2) rfl fun i w' hi e => ?_)
    have : i = 0 ∨ i = 1 := by omega
    rcases this with z | z <;> subst z <;> cases e <;> decide +kernel
  · subst e
    refine named5_ok T tl (go (j0 := 2) rfl fun i w' hi e => ?_)
    have : i = 0 ∨ i = 1 := by omega
    rcases this with z | z <;> subst z <;> cases e <;> decide +kernel
theorem ke_ok {P : Program} {mg : Str → Option Value} (T : Txt P K mg) {d p6 : Addr} {sg : List Nat} {n : Nat} {due : Str × Int} {H : Hp} {Q : VK} {E : XK} {a0 a3 a4 a5 a7 a8 a9 a10 a12 : Option V} (hd : DrL H d) (hl : ∀ c ∈ sg, c ∈ letters) (s3 : sg.length = 3) (n1 : 38 ≤ n) (n2 : n ≤ 41)
    (e6 : H p6 = some (.tup [.str due.1, .int due.2])) (hdue : due = if n < 40 then (("lot" : Str), (n : Int) + 1) else (("bad" : Str), 0)) (h : ∀ H', Q (.bl true) H') :
    t_ke K E { nx := fun _ H' => Q .non H', rt := Q } [a0, some (.ref d), some (.str (tx sg)), a3, a4, a5, some (.ref p6), a7, a8, a9, a10, some (.int (n : Int)), a12] H := by
  unfold t_ke
  obtain ⟨c, ec, hc⟩ : ∃ c, atI (tx sg).cps.toList 0 = some c ∧ c ∈ letters := ⟨sg[0], atI_nat (j := 0) (v := sg[0]) (by rw [tx_toList]; exact List.getElem?_eq_getElem (by omega)), hl _ (List.getElem_mem _)⟩
  have zsg : (tx sg).length ≤ sizeLine := by rw [tx_len]; exact small2 (by omega)
  have hrep : ∀ x ∈ List.replicate n c, x ∈ letters := fun x hx => by rw [(List.mem_replicate.mp hx).2]; exact hc
  have lrep : (List.replicate n c).length = n := List.length_replicate
  have odue : PyData.strOk due.1 = true := by rw [hdue]; split <;> first | exact ok_lot | exact ok_bad
  walk_at "sq"
  walk_at "st"
  refine ixA_str zsg ec ?_
  walk_at "st"
  refine mulA_str (by omega) (by omega) (by show (tx [c]).length ≤ _; rw [tx_len]; simp) ?_
  rw [show (⟨#[c]⟩ : Str) = tx [c] from rfl, rep1, Int.toNat_natCast]
  walk_at "st"
  refine named1_ok T (by omega) fun p s v H1 q s1 e1 => ?_
  have eq : s = due.1 ∧ v = due.2 := by
    rcases q.one hrep with ⟨rfl, rfl, z⟩ | ⟨rfl, rfl, z⟩
    · rw [lrep] at z ⊢
      rw [hdue, if_pos z]
      exact ⟨rfl, rfl⟩
    · rw [lrep] at z
      rw [hdue, if_neg (by omega)]
      exact ⟨rfl, rfl⟩
  walk_at "st"
  refine neA_si e1 (s1 _ _ e6) (by rw [eq.1]; exact odue) odue ?_
  rw [decide_eq_true eq]
  walk_at "st"
  refine named0_ok T (t := sg) (by omega) (fun f => by have := fo_let hl; omega) fun _ p2 H2 s2 e2 => ?_
  walk_at "st"
  intro p3 hp3
  have sp3 := Same.new (o := .tup [V.str "lot", V.int 1]) hp3
  walk_at "st"
  refine neA_si (sp3 _ _ e2) upd_same ok_lot ok_lot ?_
  rw [decide_eq_true ⟨rfl, rfl⟩]
  walk_at "st"
  rw [show (Str.ofString "") = tx [] from by decide +kernel]
  refine named3_ok T fun p4 H4 s4 e4 => ?_
  walk_at "st"
  intro p5 hp5
  have sp5 := Same.new (o := .tup [V.str "bad", V.int 0]) hp5
  walk_at "st"
  refine eqA_si (sp5 _ _ e4) upd_same ok_bad ok_bad ?_
  rw [decide_eq_true ⟨rfl, rfl⟩]
  walk_at "st"
  refine ixA_str zsg ec ?_
  walk_at "st"
  refine mulA_str (by omega) (by omega) (by show (tx [c]).length ≤ _; rw [tx_len]; simp) ?_
  rw [show (⟨#[c]⟩ : Str) = tx [c] from rfl, rep1, Int.toNat_natCast]
  walk_at "st"
  refine named0_ok T (by omega) (fun f => by have := fo_let hrep; omega) fun _ p7 H7 s7 e7 => ?_
  walk_at "st"
  intro p8 hp8
  have sp8 := Same.new (o := .tup [V.str "lot", V.int 1]) hp8
  walk_at "st"
  refine eqA_si (sp8 _ _ e7) upd_same ok_lot ok_lot ?_
  rw [decide_eq_true ⟨rfl, rfl⟩]
  exact h _
theorem kd_ok {P : Program} {mg : Str → Option Value} (T : Txt P K mg) {d : Addr} {sg t : List Nat} {H : Hp} {Q : VK} {E : XK} {a0 a3 a4 a5 a6 a7 a8 a11 a12 : Option V} (hd : DrL H d) (hl : ∀ c ∈ sg, c ∈ letters) (s3 : sg.length = 3) (tl : t.length ≤ 45) (ht : 0 ≤ fo t) (h : ∀ H', Q (.bl true) H') :
    t_kd K E { nx := fun _ H' => Q .non H', rt := Q } [a0, some (.ref d), some (.str (tx sg)), a3, a4, a5, a6, a7, a8, some (.str (tx t)), some (.int (fo t)), a11, a12] H := by
  unfold t_kd
  walk_at "sq"
  walk_at "st"
  intro p0 hp0
  have e0 : upd H p0 (.lst [V.int 0, V.int 1, V.int 2, V.int 4, V.int 5]) p0 = some (.lst (([0, 1, 2, 4, 5] : List Int).map V.int)) := upd_same
  have d0 := hd.same (Same.new (o := .lst [V.int 0, V.int 1, V.int 2, V.int 4, V.int 5]) hp0)
  generalize upd H p0 (.lst [V.int 0, V.int 1, V.int 2, V.int 4, V.int 5]) = H0 at e0 d0 ⊢
  walk_at "st"
  refine ⟨p0, rfl, ⟨_, .of e0⟩, ?_⟩
  refine for_list (K := K) (a := p0) (xs := ([0, 1, 2, 4, 5] : List Int).map V.int) (fun i σ H2 => Same H0 H2 ∧ ∃ v5, σ = [a0, some (.ref d), some (.str (tx sg)), a3, a4, v5, a6, a7, a8, some (.str (tx t)), some (.int (fo t)), a11, a12]) ⟨Same.refl _, _, rfl⟩ (fun i σ H2 _ q => .of (q.1 _ _ e0)) ?_ ?_
  · rintro i x σ H2 hi ⟨s2, v5, rfl⟩
    obtain ⟨z, hz, rfl⟩ := getI hi
    walk_at "st"
    refine named_odd T (List.mem_of_getElem? hz) tl ht fun p H3 s3 e3 => ?_
    walk_at "st"
    intro q hq
    have sq := Same.new (o := .tup [V.str "sign", V.int (fo t)]) hq
    walk_at "st"
    refine neA_si (sq _ _ e3) upd_same ok_sign ok_sign ?_
    rw [decide_eq_true ⟨rfl, rfl⟩]
    walk_at "st"
    exact ⟨(s2.trans s3).trans sq, _, rfl⟩
  rintro σ H2 ⟨s2, v5, rfl⟩
  have d2 := d0.same s2
  walk_at "sq"
  walk_at "st"
  rw [show (Str.ofString "yy") = tx [121, 121] from by decide +kernel]
  refine named5_ok T (by simp) fun p s v H3 q s3' e3 => ?_
  obtain ⟨rfl, rfl⟩ := q.many
  walk_at "st"
  intro q2 hq2
  have sq2 := Same.new (o := .tup [V.str "bad", V.int 0]) hq2
  walk_at "st"
  refine neA_si (sq2 _ _ e3) upd_same ok_bad ok_bad ?_
  rw [decide_eq_true ⟨rfl, rfl⟩]
  walk_at "st"
  rw [show (Str.ofString "zA") = tx [122, 65] from by decide +kernel]
  refine named_odd T (k := 5) (by simp) (by simp) (by decide +kernel) fun p4 H4 s4 e4 => ?_
  rw [show fo [122, 65] = 1 from by decide +kernel] at e4
  walk_at "st"
  intro q5 hq5
  have sq5 := Same.new (o := .tup [V.str "sign", V.int 1]) hq5
  walk_at "st"
  refine neA_si (sq5 _ _ e4) upd_same ok_sign ok_sign ?_
  rw [decide_eq_true ⟨rfl, rfl⟩]
  have s25 := ((s3'.trans sq2).trans s4).trans sq5
  have d5 := d2.same s25
  walk_at "st"
  walk_at "sq"
  walk_at "st"
  refine pick_ok (by decide) d5 fun r H6 r0 r1 k6 d6 => ?_
  walk_at "st"
  obtain ⟨n, hn⟩ : ∃ n : Nat, 38 + r = (n : Int) := ⟨(38 + r).toNat, by omega⟩
  rw [hn]
  have n1 : 38 ≤ n := by omega
  have n2 : n ≤ 41 := by omega
  clear hn
  walk_at "sq"
  by_cases n4 : n < 40
  · walk_at "st"
    intro p6 hp6
    walk_at "st"
    exact ke_ok T (d6.same (Same.new hp6)) hl s3 n1 n2 (due := ("lot", (n : Int) + 1)) upd_same (by rw [if_pos n4]) h
  · walk_at "st"
    intro p6 hp6
    walk_at "st"
    exact ke_ok T (d6.same (Same.new hp6)) hl s3 n1 n2 (due := ("bad", 0)) upd_same (by rw [if_neg n4]) h
def t_kb (K : Frg) (E : XK) : TS :=
  (tSeq (tFor (iRng1 (tCons (tCallSD (sp_law_pick K) [] (WE (W0 E)) (tCons (tVar 1) (tCons (tC (.int 3)) tNil))) tNil)) (gName 5) (tAsg (tIf (tTest (tOp rGeA (tOp (rIx K) (tVar 3) (tC (.int 0))) (tC (.int 1)))) (tCallSD (sp_law_spoilt K) [] (WE (W0 E)) (tCons (tVar 1) (tCons (tVar 3) (tCons (tVar 2) tNil)))) (tVar 3)) (gName 3))) (tSeq (tAsg (tCallSD (sp_law_due_of K) [] (WE (W0 E)) (tCons (tOp (rIx K) (tVar 3) (tC (.int 0))) (tCons (tOp (rIx K) (tVar 3) (tC (.int 1))) (tCons (tOp (rIx K) (tVar 3) (tC (.int 2))) tNil)))) (gName 6)) (tSeq (tAsg (tTup (tCons (tCB (rListA K) (tCons (tOp (rIx K) (tVar 3) (tC (.int 1))) tNil)) (tCons (tCB (rListA K) (tCons (tOp (rIx K) (tVar 3) (tC (.int 2))) tNil)) tNil))) (gName 7)) (tSeq (tAsg (tCallSD (sp_law_try_make K) [] (WE (W0 E)) (tCons (tOp (rIx K) (tVar 3) (tC (.int 0))) (tCons (tOp (rIx K) (tVar 7) (tC (.int 0))) (tCons (tOp (rIx K) (tVar 7) (tC (.int 1))) tNil)))) (gName 8)) (tSeq (tIfS (tOr (tTest (tOp (rNeA K) (tVar 8) (tVar 6))) (tOr (tNot (tB (tCallSD (sp_law_is_int K) [] (WE (W0 E)) (tCons (tOp (rIx K) (tVar 8) (tC (.int 1))) tNil)))) (tTest (tOp (rNeA K) (tVar 7) (tTup (tCons (tOp (rIx K) (tVar 3) (tC (.int 1))) (tCons (tOp (rIx K) (tVar 3) (tC (.int 2))) tNil))))))) (tRet (tC (.bl false))) tNext) (tSeq (tAsg (tCallSD (sp_law_word_of K) [] (WE (W0 E)) (tCons (tVar 1) (tCons (tVar 2) (tCons (tC (.int 0)) (tCons (tC (.int 5)) tNil))))) (gName 9)) (tSeq (tAsg (tCallSD (sp_law_pick K) [] (WE (W0 E)) (tCons (tVar 1) (tCons (tOp rAddA (tCB (rLenA K) (tCons (tVar 9) tNil)) (tC (.int 1))) tNil))) (gName 10)) (tSeq (tAsg (tOp rAddA (tOp rAddA (tSl (rSlA K) (tVar 9) tNoPart (tPart (tVar 10))) (tCallSD (sp_law_odd_sign K) [] (WE (W0 E)) (tCons (tVar 1) tNil))) (tSl (rSlA K) (tVar 9) (tPart (tVar 10)) tNoPart)) (gName 9)) (tSeq (tFor (iList K (tLst (tCons (tC (.int 0)) (tCons (tC (.int 1)) (tCons (tC (.int 2)) (tCons (tC (.int 4)) (tCons (tC (.int 5)) tNil))))))) (gName 5) (tIfS (tTest (tOp (rNeA K) (tCallSD (sp_law_named K) [] (WE (W0 E)) (tCons (tVar 5) (tCons (tVar 9) tNil))) (tTup (tCons (tC (.str "sign")) (tCons (tVar 10) tNil))))) (tRet (tC (.bl false))) tNext)) (tSeq (tIfS (tOr (tTest (tOp (rNeA K) (tCallSD (sp_law_named K) [] (WE (W0 E)) (tCons (tC (.int 5)) (tCons (tC (.str "yy")) tNil))) (tTup (tCons (tC (.str "bad")) (tCons (tC (.int 0)) tNil))))) (tTest (tOp (rNeA K) (tCallSD (sp_law_named K) [] (WE (W0 E)) (tCons (tC (.int 5)) (tCons (tC (.str "zA")) tNil))) (tTup (tCons (tC (.str "sign")) (tCons (tC (.int 1)) tNil)))))) (tRet (tC (.bl false))) tNext) (tSeq (tAsg (tOp rAddA (tC (.int 38)) (tCallSD (sp_law_pick K) [] (WE (W0 E)) (tCons (tVar 1) (tCons (tC (.int 4)) tNil)))) (gName 11)) (tSeq (tAsg (tIf (tTest (tOp rLtA (tVar 11) (tC (.int 40)))) (tTup (tCons (tC (.str "lot")) (tCons (tOp rAddA (tVar 11) (tC (.int 1))) tNil))) (tTup (tCons (tC (.str "bad")) (tCons (tC (.int 0)) tNil)))) (gName 6)) (tSeq (tIfS (tOr (tTest (tOp (rNeA K) (tCallSD (sp_law_named K) [] (WE (W0 E)) (tCons (tC (.int 1)) (tCons (tOp rMulA (tOp (rIx K) (tVar 2) (tC (.int 0))) (tVar 11)) tNil))) (tVar 6))) (tTest (tOp (rNeA K) (tCallSD (sp_law_named K) [] (WE (W0 E)) (tCons (tC (.int 0)) (tCons (tVar 2) tNil))) (tTup (tCons (tC (.str "lot")) (tCons (tC (.int 1)) tNil)))))) (tRet (tC (.bl false))) tNext) (tRet (tAndV (tOp (rEqA K) (tCallSD (sp_law_named K) [] (WE (W0 E)) (tCons (tC (.int 3)) (tCons (tC (.str "")) tNil))) (tTup (tCons (tC (.str "bad")) (tCons (tC (.int 0)) tNil)))) (tOp (rEqA K) (tCallSD (sp_law_named K) [] (WE (W0 E)) (tCons (tC (.int 0)) (tCons (tOp rMulA (tOp (rIx K) (tVar 2) (tC (.int 0))) (tVar 11)) tNil))) (tTup (tCons (tC (.str "lot")) (tCons (tC (.int 1)) tNil)))))))))))))))))))
def t_kc (K : Frg) (E : XK) : TS :=
  (tSeq (tAsg (tCallSD (sp_law_word_of K) [] (WE (W0 E)) (tCons (tVar 1) (tCons (tVar 2) (tCons (tC (.int 0)) (tCons (tC (.int 5)) tNil))))) (gName 9)) (tSeq (tAsg (tCallSD (sp_law_pick K) [] (WE (W0 E)) (tCons (tVar 1) (tCons (tOp rAddA (tCB (rLenA K) (tCons (tVar 9) tNil)) (tC (.int 1))) tNil))) (gName 10)) (tSeq (tAsg (tOp rAddA (tOp rAddA (tSl (rSlA K) (tVar 9) tNoPart (tPart (tVar 10))) (tCallSD (sp_law_odd_sign K) [] (WE (W0 E)) (tCons (tVar 1) tNil))) (tSl (rSlA K) (tVar 9) (tPart (tVar 10)) tNoPart)) (gName 9)) (tSeq (tFor (iList K (tLst (tCons (tC (.int 0)) (tCons (tC (.int 1)) (tCons (tC (.int 2)) (tCons (tC (.int 4)) (tCons (tC (.int 5)) tNil))))))) (gName 5) (tIfS (tTest (tOp (rNeA K) (tCallSD (sp_law_named K) [] (WE (W0 E)) (tCons (tVar 5) (tCons (tVar 9) tNil))) (tTup (tCons (tC (.str "sign")) (tCons (tVar 10) tNil))))) (tRet (tC (.bl false))) tNext)) (tSeq (tIfS (tOr (tTest (tOp (rNeA K) (tCallSD (sp_law_named K) [] (WE (W0 E)) (tCons (tC (.int 5)) (tCons (tC (.str "yy")) tNil))) (tTup (tCons (tC (.str "bad")) (tCons (tC (.int 0)) tNil))))) (tTest (tOp (rNeA K) (tCallSD (sp_law_named K) [] (WE (W0 E)) (tCons (tC (.int 5)) (tCons (tC (.str "zA")) tNil))) (tTup (tCons (tC (.str "sign")) (tCons (tC (.int 1)) tNil)))))) (tRet (tC (.bl false))) tNext) (tSeq (tAsg (tOp rAddA (tC (.int 38)) (tCallSD (sp_law_pick K) [] (WE (W0 E)) (tCons (tVar 1) (tCons (tC (.int 4)) tNil)))) (gName 11)) (tSeq (tAsg (tIf (tTest (tOp rLtA (tVar 11) (tC (.int 40)))) (tTup (tCons (tC (.str "lot")) (tCons (tOp rAddA (tVar 11) (tC (.int 1))) tNil))) (tTup (tCons (tC (.str "bad")) (tCons (tC (.int 0)) tNil)))) (gName 6)) (tSeq (tIfS (tOr (tTest (tOp (rNeA K) (tCallSD (sp_law_named K) [] (WE (W0 E)) (tCons (tC (.int 1)) (tCons (tOp rMulA (tOp (rIx K) (tVar 2) (tC (.int 0))) (tVar 11)) tNil))) (tVar 6))) (tTest (tOp (rNeA K) (tCallSD (sp_law_named K) [] (WE (W0 E)) (tCons (tC (.int 0)) (tCons (tVar 2) tNil))) (tTup (tCons (tC (.str "lot")) (tCons (tC (.int 1)) tNil)))))) (tRet (tC (.bl false))) tNext) (tRet (tAndV (tOp (rEqA K) (tCallSD (sp_law_named K) [] (WE (W0 E)) (tCons (tC (.int 3)) (tCons (tC (.str "")) tNil))) (tTup (tCons (tC (.str "bad")) (tCons (tC (.int 0)) tNil)))) (tOp (rEqA K) (tCallSD (sp_law_named K) [] (WE (W0 E)) (tCons (tC (.int 0)) (tCons (tOp rMulA (tOp (rIx K) (tVar 2) (tC (.int 0))) (tVar 11)) tNil))) (tTup (tCons (tC (.str "lot")) (tCons (tC (.int 1)) tNil))))))))))))))
/-! the law behind its parts -/
theorem shaped_pair' {last : List Int} {ms : List Mv} (h : ∀ m ∈ ms, SmM m) : SeqAt.shaped (.tuple [.list (last.map PyData.int), .list (ms.map mvD)]) = true := by
  have d1 := mvs_depth ms
  have d2 := depth_ints last
  have c1 := mvs_lay' h
  have c2 := canLay_ints last
  simp [SeqAt.shaped, PyData.canLay0, PyData.canLayAll0, c1, c2, PyData.depth, PyData.depthAll, d2]
  omega
theorem eqv_pair (last : List Int) (ms : List Mv) : PyData.eqv (.tuple [.list (last.map PyData.int), .list (ms.map mvD)]) (.tuple [.list (last.map PyData.int), .list (ms.map mvD)]) = true := by
  have e1 := eqv_ints last
  have e2 := eqv_mvs ms
  simp [PyData.eqv, PyData.eqvAll] at e1 e2 ⊢
  exact ⟨e1, e2⟩
theorem neA_pair {p q L M L' M' : Addr} {us us' : List Addr} {last : List Int} {ms : List Mv} {H : Hp} {Q : VK} (hs : ∀ m ∈ ms, SmM m) (hp : H p = some (.tup [.ref L, .ref M])) (hq : H q = some (.tup [.ref L', .ref M']))
    (e1 : H L = some (.lst (last.map V.int))) (e2 : H M = some (.lst (us.map V.ref))) (e3 : MvsAt H us ms) (f1 : H L' = some (.lst (last.map V.int))) (f2 : H M' = some (.lst (us'.map V.ref))) (f3 : MvsAt H us' ms) (h : Q (.bl false) H) : rNeA K (.ref p) (.ref q) H Q :=
  neA_data (.tup (SqT.of hp) (.cons (.lst (SqL.of e1) (intsData last)) (.cons (.lst (SqL.of e2) (mvs_dp e3)) .nil))) (.tup (SqT.of hq) (.cons (.lst (SqL.of f1) (intsData last)) (.cons (.lst (SqL.of f2) (mvs_dp f3)) .nil)))
    (shaped_pair' hs) (shaped_pair' hs) (eqv_pair last ms) h
theorem Due.ok {n : Int} {last : List Int} {ms : List Mv} {s : Str} {v : Int} (h : Due n last ms s v) : PyData.strOk s = true := by
  cases h with
  | bad _ => exact ok_bad
  | useless _ _ _ _ _ => exact ok_useless
  | lot _ _ => exact ok_lot
theorem fo_cut {l : List Nat} {c a : Nat} (hl : ∀ x ∈ l, x ∈ letters) (hc : c ∉ letters) (ha : a ≤ l.length) : fo (l.take a ++ [c] ++ l.drop a) = a := by
  have e : (l.take a ++ [c] ++ l.drop a)[a]? = some c := by
    rw [List.append_assoc, List.getElem?_append_right (by rw [List.length_take]; omega), List.length_take]
    have : a - min a l.length = 0 := by omega
    rw [this]
    rfl
  refine fo_at _ a c (fun j x hj e => ?_) e hc
  rw [List.append_assoc, List.getElem?_append_left (by rw [List.length_take]; omega)] at e
  exact hl x (List.mem_of_mem_take (List.mem_of_getElem? e))
theorem kc_ok {P : Program} {mg : Str → Option Value} (T : Txt P K mg) {d : Addr} {sg : List Nat} {H : Hp} {Q : VK} {E : XK} {a0 a3 a4 a5 a6 a7 a8 a9 a10 a11 a12 : Option V} (hd : DrL H d) (hl : ∀ c ∈ sg, c ∈ letters) (s3 : sg.length = 3) (h : ∀ H', Q (.bl true) H') :
    t_kc K E { nx := fun _ H' => Q .non H', rt := Q } [a0, some (.ref d), some (.str (tx sg)), a3, a4, a5, a6, a7, a8, a9, a10, a11, a12] H := by
  unfold t_kc
  walk_at "sq"
  walk_at "st"
  refine word_ok (by rw [tx_len]; omega) (by rw [tx_len]; omega) (by decide) (by decide) (by decide) hd fun t H1 ht t0 t5 k1 d1 => ?_
  rw [tx_toList] at ht
  have t5' : t.length ≤ 5 := by omega
  have htl : ∀ c ∈ t, c ∈ letters := fun c hc => hl c (ht c hc)
  walk_at "st"
  walk_at "sq"
  walk_at "st"
  refine lenA_str (by rw [tx_len]; exact small2 (by omega)) ?_
  rw [tx_len]
  walk_at "st"
  refine pick_ok (by omega) d1 fun r H2 r0 r1 k2 d2 => ?_
  obtain ⟨a, rfl⟩ : ∃ a : Nat, r = a := ⟨r.toNat, by omega⟩
  have ha : a ≤ t.length := by omega
  walk_at "st"
  walk_at "sq"
  walk_at "st"
  refine slA_str (by rw [tx_len]; exact small2 (by omega)) ?_
  rw [cut_to _ _ ha]
  walk_at "st"
  refine odd3_ok d2 fun c H3 hc hc' k3 d3 => ?_
  refine addA_str (by rw [tx_len, tx_len, List.length_take]; exact small2 (by simp; omega)) ?_
  rw [tx_app]
  walk_at "st"
  refine slA_str (by rw [tx_len]; exact small2 (by omega)) ?_
  rw [cut_from _ _ ha]
  refine addA_str (by rw [tx_len, tx_len]; exact small2 (by simp; omega)) ?_
  rw [tx_app]
  have ef := fo_cut (a := a) htl hc ha
  have el : (t.take a ++ [c] ++ t.drop a).length ≤ 45 := by
    have := congrArg List.length (List.take_append_drop a t)
    simp only [List.length_append, List.length_singleton] at this ⊢
    omega
  generalize t.take a ++ [c] ++ t.drop a = w at ef el ⊢
  walk_at "st"
  rw [← ef]
  exact kd_ok T d3 hl s3 el (by omega) h
theorem kb_ok {P : Program} {mg : Str → Option Value} (T : Txt P K mg) {d pa La Ma : Addr} {us : List Addr} {n : Int} {last : List Int} {ms : List Mv} {sg : List Nat} {H : Hp} {Q : VK} {E : XK} {a0 a4 a5 a6 a7 a8 a9 a10 a11 a12 : Option V} (hd : DrL H d) (hp : PartsAt H pa La Ma us n last ms) (nL : La ≠ d) (nM : Ma ≠ d) (pk : PK 0 last ms) (hl : ∀ c ∈ sg, c ∈ letters) (s3 : sg.length = 3) (h : ∀ H', Q (.bl true) H') :
    t_kb K E { nx := fun _ H' => Q .non H', rt := Q } [a0, some (.ref d), some (.str (tx sg)), some (.ref pa), a4, a5, a6, a7, a8, a9, a10, a11, a12] H := by
  unfold t_kb
  walk_at "sq"
  walk_at "st"
  refine pick_ok (by decide) hd fun r H1 r0 r1 k1 d1 => ?_
  have hp1 := hp.keep k1 (let ⟨_, _, q⟩ := hd; ⟨_, q⟩) nL nM
  walk_at "st"
  refine ⟨r, rfl, by omega, by omega, ?_⟩
  refine forR (n := r) (fun i σ H3 => DrL H3 d ∧ ∃ pa La Ma us n last ms v5, σ = [a0, some (.ref d), some (.str (tx sg)), some (.ref pa), a4, v5, a6, a7, a8, a9, a10, a11, a12] ∧ PartsAt H3 pa La Ma us n last ms ∧ La ≠ d ∧ Ma ≠ d ∧ PK i last ms) ⟨d1, pa, La, Ma, us, n, last, ms, _, rfl, hp1, nL, nM, pk⟩ ?_ ?_
  · rintro i σ H3 hi ⟨d3, pa, La, Ma, us, n, last, ms, v5, rfl, hp3, nL3, nM3, pk3⟩
    walk_at "st"
    refine ixA_tup (.of hp3.p) ix0 ?_
    by_cases n1 : 1 ≤ n
    · walk_at "st"
      exact spoilt_ok d3 hp3 nL3 nM3 pk3 (by omega) n1 hl s3 fun pa La Ma us n last ms H' _ d' hp' nL' nM' pk' => by
        walk_at "st"
        exact ⟨d', pa, La, Ma, us, n, last, ms, _, rfl, hp', nL', nM', pk'⟩
    · walk_at "st"
      exact ⟨d3, pa, La, Ma, us, n, last, ms, _, rfl, hp3, nL3, nM3, pk3.up⟩
  rintro σ H3 ⟨d3, pa, La, Ma, us, n, last, ms, v5, rfl, hp3, nL3, nM3, pk3⟩
  have z1 : last.length ≤ 1000 := by have := pk3.l; omega
  have z2 : ms.length ≤ 1000 := by have := pk3.m; omega
  have hz : ∀ m ∈ ms, m.2.1.cps.size ≤ 1000 := fun m hm => Nat.le_trans (pk3.s m hm).1 (by decide)
  walk_at "sq"
  walk_at "st"
  refine ixA_tup (.of hp3.p) ix0 ?_
  walk_at "st"
  refine ixA_tup (.of hp3.p) ix1 ?_
  walk_at "st"
  refine ixA_tup (.of hp3.p) ix2 ?_
  walk_at "st"
  refine due_of_ok hp3.la hp3.ma hp3.mv hz z1 z2 fun p6 s v H4 du s4 e6 => ?_
  have hp4 := hp3.same s4
  have d4 := d3.same s4
  walk_at "st"
  walk_at "sq"
  walk_at "st"
  refine ixA_tup (.of hp4.p) ix1 ?_
  refine ⟨La, _, rfl, .inl (.of hp4.la), fun L hL => ?_⟩
  have sL := Same.new (o := .lst (last.map V.int)) hL
  walk_at "st"
  refine ixA_tup (.of (sL _ _ hp4.p)) ix2 ?_
  refine ⟨Ma, _, rfl, .inl (.of (sL _ _ hp4.ma)), fun M hM => ?_⟩
  have sM := Same.new (o := .lst (us.map V.ref)) hM
  walk_at "st"
  intro p7 hp7
  have s7 := Same.new (o := .tup [V.ref L, V.ref M]) hp7
  have s47 := (sL.trans sM).trans s7
  have eL := s7 _ _ (sM _ _ (show upd H4 L (.lst (last.map V.int)) L = _ from upd_same))
  have eM := s7 _ _ (show upd (upd H4 L (.lst (last.map V.int))) M (.lst (us.map V.ref)) M = _ from upd_same)
  have e7 : upd (upd (upd H4 L (.lst (last.map V.int))) M (.lst (us.map V.ref))) p7 (.tup [V.ref L, V.ref M]) p7 = some (.tup [V.ref L, V.ref M]) := upd_same
  have e6' := s47 _ _ e6
  have hp7' := hp4.same s47
  have d7 := d4.same s47
  clear hL hM hp7 sL sM s7
  generalize upd (upd (upd H4 L (.lst (last.map V.int))) M (.lst (us.map V.ref))) p7 (.tup [V.ref L, V.ref M]) = H7 at eL eM e7 e6' hp7' d7 ⊢
  walk_at "st"
  walk_at "sq"
  walk_at "st"
  refine ixA_tup (.of hp7'.p) ix0 ?_
  walk_at "st"
  refine ixA_tup (.of e7) ix0 ?_
  walk_at "st"
  refine ixA_tup (.of e7) ix1 ?_
  walk_at "st"
  refine try_make_ok T eL eM hp7'.mv hz z1 z2 fun p8 s' v' H8 du' s8 e8 => ?_
  obtain ⟨rfl, rfl⟩ := du.uniq du'
  have hp8 := hp7'.same s8
  have d8 := d7.same s8
  have e78 := s8 _ _ e7
  walk_at "st"
  walk_at "sq"
  walk_at "st"
  refine neA_si e8 (s8 _ _ e6') du.ok du.ok ?_
  rw [decide_eq_true ⟨rfl, rfl⟩]
  walk_at "st"
  refine ixA_tup (.of e8) ix1 ?_
  walk_at "st"
  refine is_int_ok ?_
  walk_at "st"
  refine ixA_tup (.of hp8.p) ix1 ?_
  walk_at "st"
  refine ixA_tup (.of hp8.p) ix2 ?_
  walk_at "st"
  intro p9 hp9
  have s9 := Same.new (o := .tup [V.ref La, V.ref Ma]) hp9
  have hp9' := hp8.same s9
  have d9 := d8.same s9
  walk_at "st"
  refine neA_pair pk3.s (s9 _ _ e78) upd_same (s9 _ _ (s8 _ _ eL)) (s9 _ _ (s8 _ _ eM)) hp9'.mv hp9'.la hp9'.ma hp9'.mv ?_
  walk_at "st"
  exact kc_ok T d9 hl s3 h
/-! the law -/
theorem LotOk.pk {n : Int} {last : List Int} {ms : List Mv} (ok : LotOk n last ms) : PK 0 last ms := ⟨by have := ok.l9; omega, by have := ok.m9; omega, fun m hm => .sg (ok.g.mv m hm).s⟩
theorem law_ok {P : Program} {mg : Str → Option Value} (T : Txt P K mg) {a : Addr} {ns : List Int} {H : Hp} {Q : VK} {E : XK} (hS : SqL K H a (ns.map V.int)) (hn : ns.length ≤ 63) (h : ∀ H', Q (.bl true) H') : sp_law K [.ref a] H Q E := by
  refine ⟨rfl, ?_⟩
  unfold t_law
  have dn : ∀ {H2 : Hp} {b d : Addr}, DrL H2 d → H2 b = none → b ≠ d := fun dd hb e => by
    obtain ⟨_, _, q⟩ := dd
    rw [e, q] at hb
    cases hb
  walk_at "sq"
  walk_at "st"
  refine pool_ok hS hn fun d H1 _ _ d1 => ?_
  walk_at "st"
  walk_at "sq"
  walk_at "st"
  refine alphabet_ok (by decide) (by decide) d1 fun sg H3 sl hs nd k3 d3 => ?_
  have s3 : sg.length = 3 := by omega
  walk_at "st"
  walk_at "sq"
  walk_at "st"
  refine lot_of_ok d3 nd hs (by omega) (by omega) fun pa La Ma us n last ms H4 k4 d4 hp nL nM ok => ?_
  have pk := ok.pk
  walk_at "st"
  walk_at "sq"
  walk_at "st"
  refine pick_ok (by decide) d4 fun kind H5 b0 b1 k5 d5 => ?_
  have hp5 := hp.keep k5 (let ⟨_, _, q⟩ := d4; ⟨_, q⟩) nL nM
  clear k3 k4 d1 d3 hS hp
  walk_at "st"
  walk_at "sq"
  walk_at "st"
  by_cases q1 : kind = 1
  · refine rd_iteB (decide_eq_true q1) ?_
    subst q1
    walk_at "st"
    refine raw_ok d5 hs s3 fun pa La Ma us n last ms H6 _ d6 hp6 nL6 nM6 pk6 => ?_
    walk_at "st"
    walk_at "sq"
    walk_at "st"
    exact kb_ok T d6 hp6 nL6 nM6 pk6 hs s3 h
  refine rd_iteC (decide_eq_false q1) ?_
  walk_at "st"
  walk_at "sq"
  walk_at "st"
  by_cases q2 : kind = 2
  rotate_left
  · refine rd_iteC (decide_eq_false q2) ?_
    walk_at "st"
    exact kb_ok T d5 hp5 nL nM pk hs s3 h
  refine rd_iteB (decide_eq_true q2) ?_
  walk_at "sq"
  walk_at "st"
  refine pick_ok (by decide) d5 fun r H6 r0 r1 k6 d6 => ?_
  walk_at "st"
  obtain ⟨m, hm⟩ : ∃ m : Int, 38 + r = m := ⟨_, rfl⟩
  rw [hm]
  have m1 : 38 ≤ m := by omega
  have m2 : m ≤ 42 := by omega
  clear hm
  walk_at "st"
  intro L hL
  have sL := Same.new (o := .lst [V.int (m - 1)]) hL
  have eL : upd H6 L (.lst [V.int (m - 1)]) L = some (.lst (([m - 1] : List Int).map V.int)) := upd_same
  have d7 := d6.same sL
  have nL7 := dn d6 hL
  clear sL hL
  generalize upd H6 L (.lst [V.int (m - 1)]) = H7 at eL d7 ⊢
  walk_at "st"
  refine ⟨m - 1, rfl, by omega, by omega, fun M hM => ?_⟩
  have nM7 := dn d7 hM
  have neLM : L ≠ M := ne_of_none eL hM
  unfold LcAt
  refine lc_it (Qd := _) (walk_range (lo := 0) (n := (m - 1).toNat)) (fun i H8 => Keep d H7 H8 ∧ DrL H8 d ∧ ∃ (us : List Addr) (ms : List Mv), H8 M = some (.lst (us.map V.ref)) ∧ MvsAt H8 us ms ∧ (∀ m ∈ ms, IsSg m.2.1) ∧ ms.length = i)
    ⟨Keep.new hM, d7.same (Same.new hM), [], [], upd_same, ⟨rfl, fun i u m a => by simp at a⟩, fun m hm => (nomatch hm), rfl⟩ (fun _ _ _ _ => trivial) ?_ ?_
  · rintro i x H8 H9 hi ⟨k8, d8, us, ms, eM, hm, sgs, ll⟩ ⟨rfl, rfl⟩
    show gName 5 (V.int (0 + (i : Int))) _ _ _
    rw [Int.zero_add]
    walk_at "st"
    refine ⟨rfl, ?_⟩
    walk_at "st"
    refine pick_ok (by decide) d8 fun j HA j0 j1 kA dA => ?_
    obtain ⟨jn, rfl⟩ : ∃ jn : Nat, j = jn := ⟨j.toNat, by omega⟩
    have hj : jn < sg.length := by omega
    refine ixA_str (by rw [tx_len]; exact small2 (by omega)) (atI_nat (j := jn) (v := sg[jn]) (by rw [tx_toList]; exact List.getElem?_eq_getElem hj)) ?_
    have hc : sg[jn] ∈ letters := hs _ (List.getElem_mem hj)
    generalize sg[jn] = c at hc ⊢
    have eMA := kA _ _ nM7 eM
    have hmA : MvsAt HA us ms := hm.keep fun u xs e => kA _ _ (fun z => by obtain ⟨_, _, y⟩ := d8; rw [z, y] at e; cases e) e
    walk_at "st"
    intro tp htp
    have st := Same.new (o := .tup [V.int (i : Int), V.str ⟨#[c]⟩, V.int ((i : Int) + 1)]) htp
    have kt : ∀ u xs, upd HA tp (.tup [V.int (i : Int), V.str ⟨#[c]⟩, V.int ((i : Int) + 1)]) u = some (.tup xs) → upd (upd HA tp (.tup [V.int (i : Int), V.str ⟨#[c]⟩, V.int ((i : Int) + 1)])) M (.lst (us.map V.ref ++ [V.ref tp])) u = some (.tup xs) := fun u xs e => by
      rw [upd_ne (fun z => by rw [z, st _ _ eMA] at e; cases e)]; exact e
    refine ⟨_, st _ _ eMA, by rw [List.length_map, hm.l, sizeLine_eq]; omega, fun b o nb e => ?_, ?_, us ++ [tp], ms ++ [((i : Int), tx [c], (i : Int) + 1)], by rw [upd_same, List.map_append]; rfl, ?_, fun m hm' => ?_, by rw [List.length_append, ll]; rfl⟩
    · rw [upd_ne (ne_of_none e hM)]
      exact st _ _ (kA _ _ nb (k8 _ _ nb e))
    · obtain ⟨ds, z1, z2⟩ := dA
      exact ⟨ds, z1, by rw [upd_ne (Ne.symm nM7)]; exact st _ _ z2⟩
    · exact ((hmA.keep fun u xs e => st _ _ e).append (MvsAt.one (m := ((i : Int), tx [c], (i : Int) + 1)) upd_same)).keep kt
    · rcases List.mem_append.mp hm' with z | z
      · exact sgs m z
      · rw [List.mem_singleton.mp z]
        exact ⟨c, hc, rfl⟩
  rintro H8 ⟨k8, d8, us, ms, eM, hm, sgs, ll⟩
  have eL8 := k8 _ _ nL7 eL
  walk_at "st"
  intro p hpn
  have sp := Same.new (o := .tup [V.int m, V.ref L, V.ref M]) hpn
  walk_at "st"
  exact kb_ok T (d8.same sp) ⟨upd_same, sp _ _ eL8, sp _ _ eM, hm.keep fun u xs e => sp _ _ e⟩ nL7 nM7 ⟨by simp, by omega, fun m hm' => .sg (sgs m hm')⟩ hs s3 h
end Lw
namespace Lw
open PySem PySem.Spec PyProof.Rows L2
theorem law_binds {K : Frg} {f : Addr} {fd : FuncData} (F : FunD K "law" "law" (defArgs s_law) (defBody s_law) (defScope s_law) [] [] f fd) (s : Shared) (v : Value) : BindsTo s fd ⟨[v], []⟩ [("_law_script", v)] :=
  FunD.bindsA (ps := ["_law_script"]) F (fun _ _ _ _ _ _ us hl => match us, hl with | [_], _ => rfl) s [v] rfl
theorem given (w : World) (mg : PySem.Str → Option Value) (f : Addr) (h : Heap) (Y : ∃ K : Frg, K.In h ∧ Rz.SaysR fa fn K) (G : h.Ns mainGlobals mg) (e : mg "law" = some (.ref f)) : Rz.Given PySem.Challenge.rw_risensigns_k15_lot_refused 63 6 "_law_script" w mg f h := by
  obtain ⟨K, KX, c⟩ := Y
  have T : Txt PROG K mg := txt_of KX G c
  have e2 := e.symm.trans T.g_law
  cases e2
  obtain ⟨fd, _, F⟩ := ok_law (w := w) (base := h) T
  refine ⟨K, fd, sp_law K, KX, law_binds F, fun H a ns hl hS => law_ok T hS hl fun _ => rfl, fun base _ _ => ?_⟩
  obtain ⟨fd2, G2, F2⟩ := ok_law (w := w) (base := base) T
  cases Rz.fd_one F F2
  exact G2
end Lw
open PySem PySem.W PySem.Calls PyProof.Rows
theorem PySem.Challenge.cw_risensigns_k15_lot_refused_holds : PySem.Challenge.rw_risensigns_k15_lot_refused.Holds := by
  w_on; o_law
  refine HandSHeadRun.head_any (r := OpenLaw.row PySem.Challenge.rw_risensigns_k15_lot_refused) (q := view (OpenLaw.row PySem.Challenge.rw_risensigns_k15_lot_refused).prog [29]) (H := Lw.hk) (ob := Lw.ob) (M := 9000) (loose := Lw.loose) (d := HandSHeadRun.topDef (OpenLaw.row PySem.Challenge.rw_risensigns_k15_lot_refused).prog 29) (kwd := []) Lw.ob_eq
    (by kernel_rfl) (fun s => by kernel_rfl) Lw.run (by kernel_rfl) (by kernel_rfl) (by kernel_rfl) (by rfl) (by first | assumption | decide +kernel) (by decide +kernel) ⟨rfl, rfl, rfl, rfl, rfl, by decide +kernel⟩ ?hw ?hc
  case hw => w_witness2
  case hc =>
    refine Rz.endX (l := PySem.Challenge.rw_risensigns_k15_lot_refused) (n := 63) (k := 6) (x := "_law_script") rfl (by decide) (by kernel_rfl) ⟨rfl, by decide, by decide⟩ ?F
    intro w mg fa h Y G hmg0
    refine Lw.given w mg fa h Y G ?_
    have e : (HandSHeadRun.topDef (OpenLaw.row PySem.Challenge.rw_risensigns_k15_lot_refused).prog 29).name = ("law" : PySem.Str) := by kernel_rfl
    rw [← e]
    exact hmg0
