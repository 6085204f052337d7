import PyProof.Rows.All
import Wide.All
import OpenK.AllK
import Wide.FinOn
import KE.KStateDown
import KE.KExcSuper
import HandS.ForMost
import HandS.ForExc
import HandS.ExcInit
import HandS.ExcSuper
import KE.GoesEnum
import KE.GoesMore
import HandS.CallSlots
import HandS.Defaults
import HandS.IsInst
import HandS.Wide
import HandS.Walk
import HandS.Flow
import KE.KCallOwn
import HandS.Property
import HandS.ExcField
import HandS.HeadHook2
import HandS.Head0
import HandS.Head1
import HandS.Head2
import HandS.HeadEnd
import HandS.FStr
import KE.GoesZip
import KE.KDictZip
import KE.KItemsList
import HandS.ListItems
import KE.KOpsOwn
import KE.KOwnIter
import HandS.IterNext
import HandS.OwnEq
import HandS.Codes
import HandS.More
import KE.KIsAll
import HandS.Base
import HandS.Call
import HandS.Ends
import HandS.ExcCtx
import KE.KStar
import HandS.Star
import HandS.ClsMeth
import HandS.OwnIter
import HandS.Text
import PyProof.ToksMono
import HandS.List
import HandS.Replace
import HandS.ReplaceList
import PyProof.GenRules
import HandS.GenBody
import HandS.GenYield
import HandS.GenCall
import HandS.GenList
import PyProof.StrWalks
import PyProof.Rows.SetFrom
import PyProof.DictKinds
import HandS.Set
import HandS.SetFor
import HandS.Dict
import HandS.SetKeys
import HandS.Iter
import HandS.DictComp
import HandS.Comp
import HandS.Deep
import KE.SortData
import HandS.SortInts
import KE.SortKeyHeap
import PyProof.StrOps
import HandS.SortKw
import HandS.SetBool
import HandS.DictTup
import KE.KDictWalk
import PyProof.ListStr
import HandS.TupSets
import PyProof.TupleKey
import HandS.GenOver
import PyProof.GenQ
import PySem.Challenge.RW_risensigns_k16_machine_reads
set_option Elab.async false
set_option linter.all false
set_option maxRecDepth 100000
set_option maxHeartbeats 0
/-! Exceptions of the program: class X(..own.., ValueError) whose __init__ says super().__init__(text) and then stores at most one field. -/
namespace Rz
open PySem PySem.W PySem.Calls PyProof.Rows PySem.HandSPX

/-- the text of an __init__: super().__init__('..'); self.f = g -/
def exBody1 (msg f g : Str) (j : Nat) (p0 p1 p2 p3 p4 p5 q0 q1 q2 q3 : Pos) : List Stmt :=
  [.Expr (.Call (.Attribute (.Call (.Name "super" p0) [] [] p1) "__init__" p2) [.Constant (.str msg) j p3] [] p4) p5,
   .Assign [.Attribute (.Name "self" q0) f q1] (.Name g q2) q3]
def exBody0 (msg : Str) (j : Nat) (p0 p1 p2 p3 p4 p5 : Pos) : List Stmt :=
  [.Expr (.Call (.Attribute (.Call (.Name "super" p0) [] [] p1) "__init__" p2) [.Constant (.str msg) j p3] [] p4) p5]

/-- what the written part says of an exception class at C (whatever its __init__ is) -/
structure ExC (K : Frag) (C : Addr) : Prop where
  cls : ∃ nm q N bs bm sn sub ab col dd k0 k1 k2 k3 k5, K.lookup C = some (excClassObj nm q C N bs bm true sn sub ab col dd k0 k1 k2 k3 k5 "ValueError.__new__") ∧ refsVE bm = true
  sa : findIn K (.ref C) "__setattr__" = some (some (.builtin "object.__setattr__"))
  kC : keepIn K (.ref C) = true
  exC : subIn K (.ref C) (.type "BaseException") = some true
  veC : subIn K (.ref C) (.type "ValueError") = some true
  tyC : typeIn K (.ref C) = some (.type "type")
  op : nsIn K cStatics "thirdparty.any" = some none

/-- its own __init__ at fI, with the cell cc of __class__ and the code object cda -/
structure ExF (P : Program) (K : Frag) (C fI cc cda : Addr) (params : Arguments) (body : List Stmt) (scope : Scope) : Prop where
  iC : findIn K (.ref C) "__init__" = some (some (.ref fI))
  tI : typeIn K (.ref fI) = some (.type "function")
  fn : ∃ (oc : Value) (od : Option Addr) (name qual : Str) (kV doc pm ct : Value) (an : Option Addr) (osl : Array (Option Value)),
    K.lookup fI = some ⟨oc, od, .func (fnX name qual params body scope [("__class__", cc)] .none kV doc pm an (.ref cda) ct), osl⟩ ∧ codeIn K (.ref cda) qual = true
  code : ∃ (ccl : Value) (cdd : Option Addr) (vs : Array Value) (ccs : Array (Option Value)) (file : Str) (tf : Tok),
    K.lookup cda = some ⟨ccl, cdd, .fields vs, ccs⟩ ∧ vs[2]? = some (.str file tf) ∧ ((P.main.file : Str) == file) = true
  cell : ∃ (cl : Value) (cld : Option Addr) (csl : Array (Option Value)), K.lookup cc = some ⟨cl, cld, .cell (some (.ref C)), csl⟩
  sup : ks_superIn K C C "__init__" = some (some (.builtin "ValueError.__init__"))
  top : (P.main.scope.names.lookup ("super" : Str)).isSome = false

def SupOk (scope : Scope) (cc cda fI : Addr) (msg : Str) (j : Nat) (p0 p1 p2 p3 p4 p5 : Pos) : Prop := ∀ (qual : Str) (L : Addr), ∃ pl : Sem Bool,
  swapsWith (.Call (.Attribute (.Call (.Name "super" p0) [] [] p1) "__init__" p2) [.Constant (.str msg) j p3] [] p4) none p5.line (envX qual scope L fI (.ref cda) [("__class__", cc)]) = pure false ∧
  eval (.Call (.Attribute (.Call (.Name "super" p0) [] [] p1) "__init__" p2) [.Constant (.str msg) j p3] [] p4) (envX qual scope L fI (.ref cda) [("__class__", cc)]) = (do
      let ov ← attributeBase (.Call (.Name "super" p0) [] [] p1) "__init__" (envX qual scope L fI (.ref cda) [("__class__", cc)]) (eval (.Call (.Name "super" p0) [] [] p1) (envX qual scope L fI (.ref cda) [("__class__", cc)]))
      standAt p2.atName
      let (f, first) ← holding [ov] (getMethod ov "__init__" pl)
      callWith p4 f first (backTo p4 (starEach [.Constant (.str msg) j p3] (envX qual scope L fI (.ref cda) [("__class__", cc)]))) [])

theorem kept_but {K : Frag} {h h' : Heap} {x : Addr} (X : K.In h) (hx : K.lookup x = none) (k : ∀ b o, b ≠ x → h.get? b = some o → h'.get? b = some o) : K.In h' := fun a o e =>
  k a o (fun z => by rw [z, hx] at e; cases e) (X a o e)

section
variable {prog : Program} {w : World} {A : Around} {E : Value → Shared → Prop} {R : Result → Shared → Prop} {h : Heap} {g : Array GenState} {d : Drawn} {t : Nat} {os : OsState}
variable {nm q : Str} {C N : Addr} {bs bm : List Value} {hdct : Bool} {sn : List Str} {sub : List Value} {ab : Bool} {col : Option Bool} {dd : Option Addr} {k0 k1 k2 k3 k5 : Option Value}
/-- the bound ValueError.__init__ is called -/
theorem call_mw {u e t0 : Addr} {rest : List Value} {Q : Value → Shared → Prop}
    (hC : h.get? C = some (excClassObj nm q C N bs bm hdct sn sub ab col dd k0 k1 k2 k3 k5 "ValueError.__new__")) (he : h.get? e = some (excO C t0)) (hu : h.get? u = some (kxs_mw "ValueError.__init__" e)) (hrest : rest.length ≤ sizeLine)
    (hq : ∀ h' t1, (∀ b o, b ≠ e → h.get? b = some o → h'.get? b = some o) → h'.get? e = some (excO C t1) → Q .none ⟨h', g, d, t, os⟩) :
    wpAny (model prog w) A (call (.ref u) rest) Q E ⟨h, g, d, t, os⟩ := by
  refine wpAny_call (codeAny_of_tree ?_)
  show wpAny _ A.in1 (callAny (.ref u) ⟨rest, []⟩) _ _ _
  simp only [callAny]
  refine wpAny_bind (wpAny_load hu ?_)
  simp only [kxs_mw, show (Value.type "method-wrapper" == Value.type "method" || Value.type "method-wrapper" == Value.type "builtin_function_or_method" || Value.type "method-wrapper" == Value.type "method-wrapper") = true by decide, if_true]
  refine KFB.if_so (by decide) ?_
  refine wpAny_bind (check_bound_init F.excBase_ValueError.toExcCallFacts hC he rfl ?_)
  refine wpAny_bind (wpAny_pure (wpAny_pure ?_))
  refine ⟨plainId_quiet F.excBase_ValueError.init.plain _, codeAny_builtin F.excBase_ValueError.initEntry ?_⟩
  rw [Around.under_plainId F.excBase_ValueError.init.plain _]
  wp_walk
  refine hq _ h.objs.size (fun b o hb ho => ?_) ?_
  · rw [Heap.get?_update_other _ _ (Ne.symm hb)]
    exact Heap.get?_push_of_some _ ho
  · rw [Heap.get?_update_self _ (Heap.get?_push_of_some _ he) rfl]
    rfl
end

section
variable {prog : Program} {w : World} {A : Around} {E : Value → Shared → Prop} {R : Result → Shared → Prop} {s : Shared} {K : Frag} {mg : Str → Option Value} {C fI cc cda : Addr} {params : Arguments} {body : List Stmt} {scope : Scope}
/-- the statement super().__init__('..') -/
theorem sup_stmt {bodyT : List Stmt} {qual msg : Str} {j : Nat} {p0 p1 p2 p3 p4 p5 : Pos} {L x t0 : Addr} {m : Str → Option Value} {a0 : Arg} {Q : Flow → Shared → Prop} (T0 : ExC K C) (T : ExF prog K C fI cc cda params body scope)
    (X : K.In s.heap) (hg : s.heap.Ns mainGlobals mg) (hgs : mg "super" = none) (hb : ∃ mb, s.heap.Ns builtinsNs mb ∧ mb "super" = some (.type "super")) (hL : s.heap.Ns L m) (hself : m "self" = some (.ref x)) (hx : s.heap.get? x = some (excO C t0))
    (hk : scope.kind = .function) (hks : scope.names.lookup ("super" : Str) = some .globalImplicit) (hkc : scope.names.lookup ("__class__" : Str) = some .free) (hka : scope.names.lookup ("self" : Str) = some .local)
    (hp : (params.posonlyargs ++ params.args).head? = some a0) (ha0 : a0.arg = "self")
    (hev : SupOk scope cc cda fI msg j p0 p1 p2 p3 p4 p5)
    (hi : interactive (envX qual scope L fI (.ref cda) [("__class__", cc)]) = false)
    (hq : ∀ h' tk t1, (∀ b o, b ≠ x → s.heap.get? b = some o → h'.get? b = some o) → h'.get? x = some (excO C t1) → Q .next { s with heap := h', toks := tk }) :
    _root_.PySem.wpAt (model prog w) A (.func bodyT (envX qual scope L fI (.ref cda) [("__class__", cc)])) (exec (.Expr (.Call (.Attribute (.Call (.Name "super" p0) [] [] p1) "__init__" p2) [.Constant (.str msg) j p3] [] p4) p5) (envX qual scope L fI (.ref cda) [("__class__", cc)])) Q E s := by
  obtain ⟨oc, od, name, qu, kV, doc, pm, ct, an, osl, hf, hcd⟩ := T.fn
  obtain ⟨ccl, cdd, vs, ccs, file, tf, hcode, hvs, hfile⟩ := T.code
  obtain ⟨cl, cld, csl, hcell⟩ := T.cell
  obtain ⟨nm, q, N, bs, bm, sn, sub, ab, col, dd, k0, k1, k2, k3, k5, hC, hbm⟩ := T0.cls
  obtain ⟨mb, hmb, hmbs⟩ := hb
  obtain ⟨hh, g, d, t, os⟩ := s
  obtain ⟨pl, hsw, hev⟩ := hev qual L
  refine ks_wpAt_Expr_any ?_ hi hsw
  refine ks_wpAt_MethodCall (pl := pl) ?_ hev
  refine ks_wpAt_super_base (env := envX qual scope L fI (.ref cda) [("__class__", cc)]) hks hkc rfl rfl (X _ _ hf) rfl hp rfl (X _ _ hcode) rfl hvs hfile T.top ?_
  refine ks_loadName_global hk hks (loadGlobal_builtin (env := envX qual scope L fI (.ref cda) [("__class__", cc)]) hg hgs hmb hmbs ⟨rfl, ?_⟩)
  refine wpAny_loadName_free hk hkc rfl ⟨_, X _ _ hcell, rfl⟩ ?_
  rw [ha0]
  refine wpAny_loadName_local hk hka hL hself ?_
  have hC1 := X _ _ hC
  refine ks_wpAny_isType_cls hC1 rfl ⟨rfl, ?_⟩
  have hcl : clsIn K C = some { name := nm, bases := bs, mro := .ref C :: bm, ns := N, qualname := q, hasDict := true, slotNames := sn, subclasses := sub, abstract := ab, collection := col, hasDel := false } := by unfold clsIn; rw [hC] <;> rfl
  have hmro : mroIn K C (.ref C) = some true := by
    unfold mroIn
    rw [hcl]
    show (if List.isEmpty (Value.ref C :: bm) = true then none else some (List.contains (Value.ref C :: bm) (Value.ref C))) = some true
    rw [if_neg (by simp)]
    simp
  refine ks_wpAny_call_super (ox := excO C t0) hC1 rfl hx rfl (fun c e => by cases e) (looks_mroIn X hmro) (fun h' e k => ?_)
  -- the method
  have X' : K.In h' := X.keeps k
  have hx' := k _ _ hx
  have I' : InstAt h' x (excO C t0) C none := ⟨hx', rfl, rfl, trivial⟩
  have hI : Looks (model prog w) h' (isInstance (.ref x) (.type "ValueError")) true := I'.type.andThen (looks_subIn X' T0.veC)
  have hsup := T.sup
  unfold ks_superIn at hsup
  rw [hcl] at hsup
  refine kxs_getMethod kxs_ValueError e (looks_opaque X' T0.op) (l₀ := .ref C :: bm) (fun A Q E s k q => wpAny_bind ((looks_clsIn X' hcl) A _ E s k (wpAny_pure q))) rfl X' hsup hI (ks_ne X' I' hcl) (by decide) ?_
  have k2 : ∀ b o, hh.get? b = some o → (h'.push (kxs_mw "ValueError.__init__" x)).get? b = some o := fun b o z => Heap.get?_push_of_some _ (k b o z)
  have hst : starEach [.Constant (.str msg) j p3] (envX qual scope L fI (.ref cda) [("__class__", cc)]) = (false, eval (.Constant (.str msg) j p3) (envX qual scope L fI (.ref cda) [("__class__", cc)])) :: [] := rfl
  show wpAny _ _ (callWith p4 (.ref h'.objs.size) [] (backTo p4 (starEach [.Constant (.str msg) j p3] (envX qual scope L fI (.ref cda) [("__class__", cc)]))) []) _ _ _
  rw [hst]
  refine kxs_callWith (i := "ValueError.__init__") (x := x) (by rfl) ?_
  refine evalArgs_plain ?_
  show wpAny _ _ (spliced ((false, eval (.Constant (.str msg) j p3) _) :: [])) _ _ _
  refine Calls.spliced_cons (Calls.Constant_str (Calls.spliced_nil ⟨Heap.get?_push_at rfl rfl, ?_⟩))
  exact call_mw (k2 _ _ hC1) (k2 _ _ hx) (Heap.get?_push_at rfl rfl) (by show 1 ≤ sizeLine; rw [sizeLine_eq]; decide) (fun h2 t1 k3 hx2 => hq h2 _ t1 (fun b o hb z => k3 b o hb (k2 b o z)) hx2)
end

/-- what __init__ leaves of a fresh exception at x -/
structure InitEnd (h h' : Heap) (x C dx t1 : Addr) (f : Str) (v : Value) : Prop where
  keep : ∀ b o, b ≠ x → h.get? b = some o → h'.get? b = some o
  obj : h'.get? x = some { cls := .ref C, dict := some dx, data := .fields #[.ref t1, .none, .none, .none, .bool false, .none] }
  dbig : h.objs.size ≤ dx
  dne : dx ≠ x
  ns : h'.Ns1 dx (fun y => if y = f then some v else none)
structure InitEnd0 (h h' : Heap) (x C t1 : Addr) : Prop where
  keep : ∀ b o, b ≠ x → h.get? b = some o → h'.get? b = some o
  obj : h'.get? x = some { cls := .ref C, data := .fields #[.ref t1, .none, .none, .none, .bool false, .none] }
/-- the globals that an __init__ looks at -/
structure Gls (h : Heap) (mg : Str → Option Value) : Prop where
  g : h.Ns mainGlobals mg
  s : mg "super" = none
  b : ∃ mb, h.Ns builtinsNs mb ∧ mb "super" = some (.type "super")
theorem Gls.keeps {h h' : Heap} {mg : Str → Option Value} (G : Gls h mg) (k : ∀ b o, h.get? b = some o → h'.get? b = some o) : Gls h' mg := ⟨G.g.keeps k, G.s, let ⟨mb, a, b⟩ := G.b; ⟨mb, a.keeps k, b⟩⟩
/-- the scope's and parameters' facts -/
structure ScB (scope : Scope) (params : Arguments) : Prop where
  hk : scope.kind = .function
  hks : scope.names.lookup ("super" : Str) = some .globalImplicit
  hkc : scope.names.lookup ("__class__" : Str) = some .free
  hka : scope.names.lookup ("self" : Str) = some .local
  hp : ∃ a0, (params.posonlyargs ++ params.args).head? = some a0 ∧ a0.arg = "self"
  hcell : ∀ x ∈ scope.names, x.2 ≠ .cell
structure ScI (scope : Scope) (params : Arguments) (g : Str) : Prop extends ScB scope params where
  hkg : scope.names.lookup g = some .local
  hgs : ("self" : Str) ≠ g
  hgd : (g == ("__debug__" : Str)) = false
section
variable {prog : Program} {w : World} {A : Around} {E : Value → Shared → Prop} {R : Result → Shared → Prop} {s : Shared} {K : Frag} {mg : Str → Option Value} {C fI cc cda : Addr} {params : Arguments} {scope : Scope}
theorem ldX {M : Model} {env : Env} {m : Str → Option Value} {x : Str} {pos : Pos} {v : Value} {Q : Value → Shared → Prop} (hn : s.heap.Ns env.locals m) (hv : m x = some v) (h : Q v s)
    (hk : env.scope.kind = .function) (hl : env.kindOf x = some .local) (hd : (x == ("__debug__" : Str)) = false) : wpAny M A (eval (.Name x pos) env) Q E s := wpAny_Name (wpAny_loadName_local hk hl hn hv h) hd
theorem exc_init1 {msg f g : Str} {j : Nat} {p0 p1 p2 p3 p4 p5 q0 q1 q2 q3 : Pos} {x t0 : Addr} {v : Value} (T0 : ExC K C) (T : ExF prog K C fI cc cda params (exBody1 msg f g j p0 p1 p2 p3 p4 p5 q0 q1 q2 q3) scope) (S : ScI scope params g) (hev : SupOk scope cc cda fI msg j p0 p1 p2 p3 p4 p5)
    (hno : findIn K (.ref C) f = some none) (hgen : scope.isGenerator = false) (hco : scope.isCoroutine = false)
    (hbind : ∀ (name qual : Str) (body : List Stmt) (kV doc pm ct : Value) (an : Option Addr), bindArgs (fnX name qual params body scope [("__class__", cc)] .none kV doc pm an (.ref cda) ct) ⟨[.ref x, v], []⟩ = pure [(("self" : Str), Value.ref x), (g, v)])
    (X : K.In s.heap) (G : Gls s.heap mg) (hlim : s.heap.NoLimit) (hx : s.heap.get? x = some (excO C t0)) (hnx : K.lookup x = none) (hroom : A.depth < recursionLimit) 
    (hq : ∀ h' tk dx t1, InitEnd s.heap h' x C dx t1 f v → R (.ok (.ret .none)) { s with heap := h', toks := tk }) :
    codeAny (model prog w) A (.call (.ref fI) ⟨[.ref x, v], []⟩) R s := by
  obtain ⟨oc, od, name, qual, kV, doc, pm, ct, an, osl, hf, hcd⟩ := T.fn
  obtain ⟨nm, q, N, bs, bm, sn, sub, ab, col, dd, k0, k1, k2, k3, k5, hC, hbm⟩ := T0.cls
  obtain ⟨a0, hp, ha0⟩ := S.hp
  have hcl : clsIn K C = some { name := nm, bases := bs, mro := .ref C :: bm, ns := N, qualname := q, hasDict := true, slotNames := sn, subclasses := sub, abstract := ab, collection := col, hasDel := false } := by unfold clsIn; rw [hC] <;> rfl
  refine ks_codeAny_call_defAt hroom (X _ _ hf) rfl hlim (codeRec_of X hcd) rfl (.of_eq (hbind _ _ _ _ _ _ _ _)) S.hcell (fun y hy => ?_) (fun h0 hns k => ?_) hco hgen S.hk
  · simp only [List.mem_cons, List.not_mem_nil, or_false] at hy
    rcases hy with rfl | rfl
    · exact S.hka
    · exact S.hkg
  have m1 : (([("self", Value.ref x), (g, v)] : List (Str × Value)).reverse.lookup ("self" : Str)) = some (.ref x) := by
    show List.lookup ("self" : Str) [(g, v), ("self", Value.ref x)] = _
    have e : (("self" : Str) == g) = false := by simpa using S.hgs
    simp [List.lookup, e]
  have m2 : (([("self", Value.ref x), (g, v)] : List (Str × Value)).reverse.lookup g) = some v := by
    show List.lookup g [(g, v), ("self", Value.ref x)] = _
    simp [List.lookup]
  have hxL : s.heap.objs.size ≠ x := Nat.ne_of_gt (Heap.lt_size hx)
  refine ks_wpAt_execs_cons (sup_stmt T0 T (X.keeps k) (G.keeps k).g G.s (G.keeps k).b hns m1 (k _ _ hx) S.hk S.hks S.hkc S.hka hp ha0 hev (by show interactive _ = false; simp [interactive, S.hk]) (fun h1 tk t1 k1 hx1 => ?_))
  have X1 : K.In h1 := kept_but (X.keeps k) hnx k1
  have hns1 : h1.Ns s.heap.objs.size (fun y => (([("self", Value.ref x), (g, v)] : List (Str × Value)).reverse.lookup y)) := by
    obtain ⟨o, es, ep, ho, r⟩ := hns
    exact ⟨o, es, ep, k1 _ o hxL ho, r⟩
  refine _root_.PySem.wpAt_of_wpAny ?_
  refine wpAny_execs_cons (plainObj_wpAny_Assign_Attribute ?_ (by rfl))
  refine ldX (v := v) hns1 m2 (ldX (v := .ref x) hns1 m1 ?_ S.hk S.hka rfl) S.hk S.hkg S.hgd
  refine set_plain X1 (ox := excO C t1) (od := none) ⟨hx1, rfl, rfl, trivial⟩ T0.sa ?_
  refine exc_osa X1 hx1 hcl (show refsVE (.ref C :: bm) = true from hbm) rfl hno (fun h₃ tk₃ dx k₃ dn dne hx₃ hn₃ => ?_)
  refine wpAny_execs_nil (hq h₃ tk₃ dx t1 ⟨fun b o hb e => k₃ b o hb (k1 b o hb (k b o e)), hx₃, ?_, dne, hn₃⟩)
  obtain ⟨oL, _, _, hoL, _⟩ := hns1
  have z : s.heap.objs.size < h1.objs.size := Heap.lt_size hoL
  exact Nat.le_of_lt (Nat.lt_of_lt_of_le z dn)
theorem exc_init0 {msg : Str} {j : Nat} {p0 p1 p2 p3 p4 p5 : Pos} {x t0 : Addr} (T0 : ExC K C) (T : ExF prog K C fI cc cda params (exBody0 msg j p0 p1 p2 p3 p4 p5) scope) (S : ScB scope params) (hev : SupOk scope cc cda fI msg j p0 p1 p2 p3 p4 p5)
    (hgen : scope.isGenerator = false) (hco : scope.isCoroutine = false)
    (hbind : ∀ (name qual : Str) (body : List Stmt) (kV doc pm ct : Value) (an : Option Addr), bindArgs (fnX name qual params body scope [("__class__", cc)] .none kV doc pm an (.ref cda) ct) ⟨[.ref x], []⟩ = pure [(("self" : Str), Value.ref x)])
    (X : K.In s.heap) (G : Gls s.heap mg) (hlim : s.heap.NoLimit) (hx : s.heap.get? x = some (excO C t0)) (hnx : K.lookup x = none) (hroom : A.depth < recursionLimit)
    (hq : ∀ h' tk t1, InitEnd0 s.heap h' x C t1 → R (.ok (.ret .none)) { s with heap := h', toks := tk }) :
    codeAny (model prog w) A (.call (.ref fI) ⟨[.ref x], []⟩) R s := by
  obtain ⟨oc, od, name, qual, kV, doc, pm, ct, an, osl, hf, hcd⟩ := T.fn
  obtain ⟨a0, hp, ha0⟩ := S.hp
  refine ks_codeAny_call_defAt hroom (X _ _ hf) rfl hlim (codeRec_of X hcd) rfl (.of_eq (hbind _ _ _ _ _ _ _ _)) S.hcell (fun y hy => ?_) (fun h0 hns k => ?_) hco hgen S.hk
  · simp only [List.mem_cons, List.not_mem_nil, or_false] at hy
    subst hy
    exact S.hka
  have m1 : (([("self", Value.ref x)] : List (Str × Value)).reverse.lookup ("self" : Str)) = some (.ref x) := by
    show List.lookup ("self" : Str) [("self", Value.ref x)] = _
    simp [List.lookup]
  refine ks_wpAt_execs_cons (sup_stmt T0 T (X.keeps k) (G.keeps k).g G.s (G.keeps k).b hns m1 (k _ _ hx) S.hk S.hks S.hkc S.hka hp ha0 hev (by show interactive _ = false; simp [interactive, S.hk]) (fun h1 tk t1 k1 hx1 => ?_))
  refine _root_.PySem.wpAt_of_wpAny ?_
  exact wpAny_execs_nil (hq h1 _ t1 ⟨fun b o hb e => k1 b o hb (k b o e), hx1⟩)
end

/-- an exception class with one field f | with none -/
structure ExOne (P : Program) (K : Frag) (C : Addr) (f : Str) : Prop where
  c : ExC K C
  no : findIn K (.ref C) f = some none
  ex : ∃ (fI cc cda : Addr) (params : Arguments) (msg g : Str) (j : Nat) (p0 p1 p2 p3 p4 p5 q0 q1 q2 q3 : Pos) (scope : Scope), ExF P K C fI cc cda params (exBody1 msg f g j p0 p1 p2 p3 p4 p5 q0 q1 q2 q3) scope ∧ ScI scope params g ∧
    SupOk scope cc cda fI msg j p0 p1 p2 p3 p4 p5 ∧ scope.isGenerator = false ∧ scope.isCoroutine = false ∧
    ∀ (x : Addr) (v : Value) (name qual : Str) (body : List Stmt) (kV doc pm ct : Value) (an : Option Addr), bindArgs (fnX name qual params body scope [("__class__", cc)] .none kV doc pm an (.ref cda) ct) ⟨[.ref x, v], []⟩ = pure [(("self" : Str), Value.ref x), (g, v)]
structure ExZero (P : Program) (K : Frag) (C : Addr) : Prop where
  c : ExC K C
  ex : ∃ (fI cc cda : Addr) (params : Arguments) (msg : Str) (j : Nat) (p0 p1 p2 p3 p4 p5 : Pos) (scope : Scope), ExF P K C fI cc cda params (exBody0 msg j p0 p1 p2 p3 p4 p5) scope ∧ ScB scope params ∧
    SupOk scope cc cda fI msg j p0 p1 p2 p3 p4 p5 ∧ scope.isGenerator = false ∧ scope.isCoroutine = false ∧
    ∀ (x : Addr) (name qual : Str) (body : List Stmt) (kV doc pm ct : Value) (an : Option Addr), bindArgs (fnX name qual params body scope [("__class__", cc)] .none kV doc pm an (.ref cda) ct) ⟨[.ref x], []⟩ = pure [(("self" : Str), Value.ref x)]
/-- a made exception -/
structure OwnMade (h h' : Heap) (e C d : Addr) (f : Str) (v : Value) : Prop where
  keep : ∀ b o, h.get? b = some o → h'.get? b = some o
  new : h.objs.size ≤ e
  obj : ∃ oe vs, h'.get? e = some oe ∧ oe.cls = .ref C ∧ oe.dict = some d ∧ oe.data = .fields vs ∧ vs[1]? = some .none
  dbig : h.objs.size ≤ d
  dne : d ≠ e
  ns : h'.Ns1 d (fun y => if y = f then some v else none)
structure OwnMade0 (h h' : Heap) (e C : Addr) : Prop where
  keep : ∀ b o, h.get? b = some o → h'.get? b = some o
  new : h.objs.size ≤ e
  obj : ∃ oe vs, h'.get? e = some oe ∧ oe.cls = .ref C ∧ oe.dict = none ∧ oe.data = .fields vs ∧ vs[1]? = some .none
theorem one_size (v : Value) : [v].length ≤ sizeLine := by
  rw [sizeLine_eq]
  exact (by decide : 1 ≤ 16777216)
section
variable {prog : Program} {w : World} {A : Around} {E : Value → Shared → Prop} {R : Result → Shared → Prop} {s : Shared} {K : Frag} {mg : Str → Option Value} {C : Addr} {f : Str}
theorem exc_made1 (T : ExOne prog K C f) {v : Value} (X : K.In s.heap) (G : Gls s.heap mg) (hlim : s.heap.NoLimit) (hroom : A.depth + 1 < recursionLimit)
    (hq : ∀ h' tk e d, OwnMade s.heap h' e C d f v → R (.ok (.ret (.ref e))) { s with heap := h', toks := tk }) :
    codeAny (model prog w) A (.call (.ref C) ⟨[v], []⟩) R s := by
  obtain ⟨fI, cc, cda, params, msg, g, j, p0, p1, p2, p3, p4, p5, q0, q1, q2, q3, scope, TF, S, hev, hgen, hco, hbind⟩ := T.ex
  obtain ⟨nm, q, N, bs, bm, sn, sub, ab, col, dd, k0, k1, k2, k3, k5, hC, hbm⟩ := T.c.cls
  obtain ⟨hp, gg, dr, tk, os⟩ := s
  have k : ∀ b o, hp.get? b = some o → ((hp.push (kdv_tup [v])).push (excO C hp.objs.size)).get? b = some o := fun b o e => Heap.get?_push_of_some _ (Heap.get?_push_of_some _ e)
  have hget : ((hp.push (kdv_tup [v])).push (excO C hp.objs.size)).get? (hp.objs.size + 1) = some (excO C hp.objs.size) := by heap_get
  have hnx : K.lookup (hp.objs.size + 1) = none := by
    cases e : K.lookup (hp.objs.size + 1) with
    | none => rfl
    | some o =>
      have z : hp.get? (hp.objs.size + 1) = some o := X _ _ e
      exact absurd (Nat.lt_of_succ_lt (Heap.lt_size z)) (Nat.lt_irrefl _)
  refine call_own F.excBase_ValueError (fun X => refsVE_contains X bm hbm) (X _ _ hC) (looks_findIn X TF.iC) (fun self => bind_fn X self TF.tI) (one_size v) ?_
  refine exc_init1 (mg := mg) (s := ⟨(hp.push (kdv_tup [v])).push (excO C hp.objs.size), gg, dr, tk, os⟩) T.c TF S hev T.no hgen hco (fun name qual body kV doc pm ct an => hbind _ _ name qual body kV doc pm ct an) (X.keeps k) (G.keeps k) (hlim.keeps k) hget hnx ?_ fun h' tk' dx t1 ⟨k', hx, dn, dne, hns⟩ => ?_
  · show A.depth + 1 < recursionLimit
    exact hroom
  · have old : ∀ b o, hp.get? b = some o → h'.get? b = some o := fun b o e => k' b o (Nat.ne_of_lt (Nat.lt_succ_of_lt (Heap.lt_size e))) (k b o e)
    have z : hp.objs.size + 1 + 1 ≤ dx := by
      first
        | (simpa only [Heap.size_push] using dn)
        | exact dn
        | (have q := dn; rw [Heap.size_push, Heap.size_push] at q; exact q)
    exact ⟨rfl, hq h' tk' (hp.objs.size + 1) dx ⟨old, Nat.le_succ _, ⟨_, _, hx, rfl, rfl, rfl, rfl⟩, Nat.le_trans (Nat.le_trans (Nat.le_succ _) (Nat.le_succ _)) z, dne, hns⟩⟩
theorem exc_made0 (T : ExZero prog K C) (X : K.In s.heap) (G : Gls s.heap mg) (hlim : s.heap.NoLimit) (hroom : A.depth + 1 < recursionLimit)
    (hq : ∀ h' tk e, OwnMade0 s.heap h' e C → R (.ok (.ret (.ref e))) { s with heap := h', toks := tk }) :
    codeAny (model prog w) A (.call (.ref C) ⟨[], []⟩) R s := by
  obtain ⟨fI, cc, cda, params, msg, j, p0, p1, p2, p3, p4, p5, scope, TF, S, hev, hgen, hco, hbind⟩ := T.ex
  obtain ⟨nm, q, N, bs, bm, sn, sub, ab, col, dd, k0, k1, k2, k3, k5, hC, hbm⟩ := T.c.cls
  obtain ⟨hp, gg, dr, tk, os⟩ := s
  have k : ∀ b o, hp.get? b = some o → ((hp.push (kdv_tup [])).push (excO C hp.objs.size)).get? b = some o := fun b o e => Heap.get?_push_of_some _ (Heap.get?_push_of_some _ e)
  have hget : ((hp.push (kdv_tup [])).push (excO C hp.objs.size)).get? (hp.objs.size + 1) = some (excO C hp.objs.size) := by heap_get
  have hnx : K.lookup (hp.objs.size + 1) = none := by
    cases e : K.lookup (hp.objs.size + 1) with
    | none => rfl
    | some o =>
      have z : hp.get? (hp.objs.size + 1) = some o := X _ _ e
      exact absurd (Nat.lt_of_succ_lt (Heap.lt_size z)) (Nat.lt_irrefl _)
  refine call_own F.excBase_ValueError (fun X => refsVE_contains X bm hbm) (X _ _ hC) (looks_findIn X TF.iC) (fun self => bind_fn X self TF.tI) (by show 0 ≤ sizeLine; exact Nat.zero_le _) ?_
  refine exc_init0 (mg := mg) (s := ⟨(hp.push (kdv_tup [])).push (excO C hp.objs.size), gg, dr, tk, os⟩) T.c TF S hev hgen hco (fun name qual body kV doc pm ct an => hbind _ name qual body kV doc pm ct an) (X.keeps k) (G.keeps k) (hlim.keeps k) hget hnx ?_ fun h' tk' t1 ⟨k', hx⟩ => ?_
  · show A.depth + 1 < recursionLimit
    exact hroom
  · have old : ∀ b o, hp.get? b = some o → h'.get? b = some o := fun b o e => k' b o (Nat.ne_of_lt (Nat.lt_succ_of_lt (Heap.lt_size e))) (k b o e)
    exact ⟨rfl, hq h' tk' (hp.objs.size + 1) ⟨old, Nat.le_succ _, ⟨_, _, hx, rfl, rfl, rfl, rfl⟩⟩⟩
end
end Rz

namespace L2
open PySem PySem.Spec PyProof.Rows
theorem relO_one {v : V} {v' : Value} (r : RelV v v') (fl f : Str) : RelO (List.lookup f [(fl, v)]) (if f = fl then some v' else none) := by
  by_cases hw : f = fl
  · subst hw
    rw [if_pos rfl]
    have q : List.lookup f [(f, v)] = some v := by simp [List.lookup]
    rw [q]
    exact r
  · rw [if_neg hw]
    have qw : (f == fl) = false := by simpa using hw
    have q2 : List.lookup f [(fl, v)] = none := by simp [List.lookup, qw]
    rw [q2]
    trivial
section
variable {X : Cx} {C : Addr}
theorem Inv.gls {pins : List (Addr × Obj)} {σ : St} {H : Hp} {s : Shared} (I : Inv X pins σ H s) (hs : X.mg "super" = none) : Rz.Gls s.heap X.mg :=
  ⟨I.mod.glob.keeps I.bk, hs, let ⟨mb, h1, h2⟩ := I.mod.blt; ⟨mb, h1.keeps I.bk, (h2 "super" (by decide)).trans (by decide +kernel)⟩⟩
/-- C(e), an exception with one field -/
def tMkX (C : Addr) (f : Str) (ta : TA) : St → Hp → XK → Prop := fun σ H Q => ta σ H fun vs H1 => ∃ v, vs = [v] ∧ ∀ d, H1 d = none → Q (.ref C) (some d) (upd H1 d (.xd [(f, v)]))
theorem pmk_sup1 {x f : Str} {a : Expr} {ta : TA} {p pos : Pos} {k : Nat} (T : Rz.ExOne X.prog X.K C f) (hs : X.mg "super" = none) (hr : Room k X.A) (hg : Gl X x) (hm : X.mg x = some (.ref C)) (ha : PA X [a] ta)
    (hdb : (x == ("__debug__" : Str)) = false := by decide)
    (he : starEach (a :: []) X.env = (false, eval a X.env) :: starEach [] X.env := by rfl) (hpl : (backTo pos (starEach [] X.env)).any (·.1) = false := by rfl) :
    PMk X (.Call (.Name x p) [a] [] pos) (tMkX C f ta) := by
  intro pins s σ H Q I h
  refine wpAny_Call_Name_kw (ld_glob I hg hm ?_ hdb)
  refine PySem.W.callWith_K (h₀ := X.base) I.ok.mod.kin T.c.kC (thn (ha.run pos pins s σ H _ I h) fun us s1 hh => ?_) he hpl
  obtain ⟨vs, H1, I1, r1, v, ev, q1⟩ := hh
  subst ev
  refine ⟨I1.kIn, ?_⟩
  cases r1 with
  | cons rv rn =>
    rename_i v' us'
    cases rn
    show wpAny _ _ (call (.ref C) [v']) _ _ _
    have hlim := I1.nolimit
    have G := I1.gls hs
    obtain ⟨hp, g, dr, tk, os⟩ := s1
    refine wpAny_call (Rz.exc_made1 (mg := X.mg) T I1.kIn G hlim (by have := hr.dp; omega) fun h' tk' e d M => ?_)
    show MkP X pins σ Q (.ref e) ⟨h', g, dr, tk', os⟩
    obtain ⟨oe, fv, hoe, hc, hd, hdat, h1⟩ := M.obj
    have hns := M.ns
    obtain ⟨G', g1, g2⟩ := restrict h' fun b => decide (b ≠ e)
    have gk : ∀ b, b ≠ e → G'.get? b = h'.get? b := fun b hb => g1 b (decide_eq_true hb)
    have ge : G'.get? e = none := g2 e (by simp)
    have old : ∀ b o, hp.get? b = some o → G'.get? b = some o := fun b o q => (gk b (Nat.ne_of_lt (Nat.lt_of_lt_of_le (Heap.lt_size q) M.new))).trans (M.keep b o q)
    have hns' : G'.Ns1 d (fun y => if y = f then some v' else none) := by
      obtain ⟨o, es, ep, ho, r⟩ := hns
      exact ⟨o, es, ep, (gk d M.dne).trans ho, r⟩
    have J : Inv X pins σ (upd H1 d (.xd [(f, v)])) ⟨G', g, dr, tk', os⟩ := I1.laid (t' := tk') old M.dbig ⟨_, hns', relO_one rv f⟩
    refine ⟨e, oe, fv, ⟨G', g, dr, tk', os⟩, _, .ref C, some d, rfl, J, fun b o q => ?_, ge, hoe, ⟨hc, hd⟩, hdat, h1, ?_, rfl, J.bare, raises_own T.c.exC T.c.tyC, q1 d (I1.hok.fresh M.dbig)⟩
    · by_cases hb : b = e
      · have q' : G'.get? b = some o := q
        rw [hb, ge] at q'; cases q'
      · exact (gk b hb).symm.trans q
    · rw [upd_ne (Ne.symm M.dne)]
      exact I1.hok.fresh M.new
/-- C(), an exception without fields -/
def tMkX0 (C : Addr) : St → Hp → XK → Prop := fun _ H Q => Q (.ref C) none H
theorem pmk_sup0 {x : Str} {p pos : Pos} {k : Nat} (T : Rz.ExZero X.prog X.K C) (hs : X.mg "super" = none) (hr : Room k X.A) (hg : Gl X x) (hm : X.mg x = some (.ref C))
    (hdb : (x == ("__debug__" : Str)) = false := by decide) : PMk X (.Call (.Name x p) [] [] pos) (tMkX0 C) := by
  intro pins s σ H Q I h
  refine wpAny_Call_Name_kw (ld_glob I hg hm ?_ hdb)
  refine PySem.W.callWith_K0 I.kIn T.c.kC ?_
  have hlim := I.nolimit
  have G := I.gls hs
  obtain ⟨hp, g, dr, tk, os⟩ := s
  refine wpAny_call (Rz.exc_made0 (mg := X.mg) T I.kIn G hlim (by have := hr.dp; omega) fun h' tk' e M => ?_)
  show MkP X pins σ Q (.ref e) ⟨h', g, dr, tk', os⟩
  obtain ⟨oe, fv, hoe, hc, hd, hdat, h1⟩ := M.obj
  obtain ⟨G', g1, g2⟩ := restrict h' fun b => decide (b ≠ e)
  have gk : ∀ b, b ≠ e → G'.get? b = h'.get? b := fun b hb => g1 b (decide_eq_true hb)
  have ge : G'.get? e = none := g2 e (by simp)
  have old : ∀ b o, hp.get? b = some o → G'.get? b = some o := fun b o q => (gk b (Nat.ne_of_lt (Nat.lt_of_lt_of_le (Heap.lt_size q) M.new))).trans (M.keep b o q)
  have J : Inv X pins σ H ⟨G', g, dr, tk', os⟩ := I.kept (t' := tk') old
  refine ⟨e, oe, fv, ⟨G', g, dr, tk', os⟩, H, .ref C, none, rfl, J, fun b o q => ?_, ge, hoe, ⟨hc, hd⟩, hdat, h1, I.hok.fresh M.new, rfl, J.bare, raises_own T.c.exC T.c.tyC, h⟩
  by_cases hb : b = e
  · have q' : G'.get? b = some o := q
    rw [hb, ge] at q'; cases q'
  · exact (gk b hb).symm.trans q
end
end L2

/-! enumerate over a text. -/
namespace L2
open PySem PySem.Spec PyProof.Rows
/-- each sign of the text with its place, in new pairs -/
def Ites (x : Str) : It :=
  ⟨fun i _ => i < x.cps.size, fun i H v H' => ∃ T c, v = .ref T ∧ H T = none ∧ x.cps[i]? = some c ∧ H' = upd H T (.tup [.int (i : Nat), .str ⟨#[c]⟩]), fun i _ => i = x.cps.size⟩
theorem turn_enumS {P : Program} {w : World} {K : PySem.W.Frag} {elts : List Expr} {kk : Nat} {tpos : Pos} (x : Str) (t : Tok) (e it : Addr) :
    Turn P w K (.Tuple elts kk tpos) (Ites x) [e, it] e (fun i h => (∃ old, IsEnum h e it ((i : Nat) : Int) old) ∧ h.IsStrIter it (strIterType x) x t i ∧ e ≠ it) where
  mem := by simp
  obj := fun i h st b hb => by
    obtain ⟨⟨old, he⟩, ⟨o, ho, hc, hd⟩, _⟩ := st
    have e' : b = e ∨ b = it := by simpa using hb
    rcases e' with z | z
    · rw [z]; exact ⟨_, he, fun v q => nomatch q⟩
    · rw [z]; exact ⟨o, ho, fun v q => by rw [hd] at q; cases q⟩
  keep := fun i h h' st k => by
    obtain ⟨⟨old, he⟩, ⟨o, ho, r⟩, hne⟩ := st
    exact ⟨⟨old, k e (by simp) _ he⟩, ⟨o, k it (by simp) o ho, r⟩, hne⟩
  item := by
    intro X hP hw hK hc i pins s σ H E I hf st hg
    subst hP hw hK
    obtain ⟨⟨old, he⟩, hit, hne⟩ := st
    have hel : e < s.heap.objs.size := Heap.lt_size he
    have hil : it < s.heap.objs.size := by obtain ⟨_, q, _⟩ := hit; exact Heap.lt_size q
    have hh : X.A.in1.handled = none := I.ok.hd hc
    refine wpAny_pyNext_enum_itemD (Draws.text hh it x t) he hit hg hne (by simpa using hne) fun v h' tk hv ho hit' hT hsz hk => ?_
    obtain ⟨c, u, hcx, rfl⟩ := hv
    refine ⟨_, rfl, wpAny_letOwnedTupleGo_enum (s := { s with heap := h', toks := tk + 1 }) ho fun h'' he' sb => ?_⟩
    have hT2 : h''.get? s.heap.objs.size = some { cls := .type "tuple", data := .seq #[.int i tk, .str ⟨#[c]⟩ u] } := (sb.2 _ (Nat.ne_of_gt hel)).trans hT
    have new : ObjOk X.prog X.w (upd H s.heap.objs.size (.tup [.int (i : Nat), .str ⟨#[c]⟩])) h'' s.heap.objs.size (.tup [.int (i : Nat), .str ⟨#[c]⟩]) :=
      ⟨by show 2 ≤ sizeLine; decide, [.int i tk, .str ⟨#[c]⟩ u], .cons ⟨_, rfl⟩ (.cons ⟨_, rfl⟩ .nil), ⟨_, hT2, rfl, _, rfl⟩⟩
    have I1 : Inv X pins σ (upd H s.heap.objs.size (.tup [.int (i : Nat), .str ⟨#[c]⟩])) { s with heap := h'', toks := tk + 1 } :=
      I.turnedNew (ch := [e, it]) (fun b ob hb q => (sb.2 b (fun z => hb (by simp [z]))).trans (hk b ob (fun z => hb (by simp [z])) (fun z => hb (by simp [z])) q)) hf (Nat.le_refl _) new
    obtain ⟨oi, hoi, ri⟩ := hit'
    refine ⟨.ref s.heap.objs.size, _, I1, rfl, ⟨_, c, rfl, I.hok.fresh (Nat.le_refl _), hcx, rfl⟩, ⟨⟨.str ⟨#[c]⟩ u, ?_⟩, ⟨oi, (sb.2 it (Ne.symm hne)).trans hoi, ri⟩, hne⟩, fun b hb => ?_⟩
    · have e1 : ((i + 1 : Nat) : Int) = (i : Int) + 1 := by omega
      rw [e1]; exact he'
    · have hb' : b < s.heap.objs.size := by
        have e' : b = e ∨ b = it := by simpa using hb
        rcases e' with z | z
        · rw [z]; exact hel
        · rw [z]; exact hil
      rw [upd_ne (Nat.ne_of_lt hb')]
      exact (hf b hb).1
  done := by
    intro X hP hw hK hc i pins s σ H E I hf st hg
    subst hP hw hK
    obtain ⟨⟨old, he⟩, hit, hne⟩ := st
    have hg' : i = x.cps.size := hg
    subst hg'
    obtain ⟨f0, f1, f2, f3, f4, f5⟩ := hf it (by simp)
    have hh : X.A.in1.handled = none := I.ok.hd hc
    exact wpAny_pyNext_enum_endD (Draws.text hh it x t) he hit fun h' eb => ⟨rfl, I.turned (t' := s.toks) (fun b o hb q => eb b o hb q) f0 f1 f3 f4 f5⟩
  self := fun A i s Q E st h => let ⟨⟨_, he⟩, _⟩ := st; wpAny_pyIter_enum he h
def iEnumS (ta : TA) : TI := fun σ H R => ta σ H fun vs H1 => ∃ x, vs = [.str x] ∧ R (Ites x) H1
theorem pi_enumS {X : Cx} {e : Expr} {ta : TA} {p pos tpos : Pos} {elts : List Expr} {kk : Nat} (hg : Gl X "enumerate") (hm : X.mg "enumerate" = none) (ha : PA X [e] ta) (hs : starEach [e] X.env = [(false, eval e X.env)] := by rfl) :
    PI X (.Tuple elts kk tpos) (.Call (.Name "enumerate" p) [e] [] pos) (iEnumS ta) := by
  refine ⟨fun pins s σ H R I h => ?_⟩
  refine Call_ (ld_blt I hg hm boot_enumerate (PyProof.Rows.callWith_type1 (thn (ha.run pos pins s σ H _ I h) fun us s1 ⟨vs, H1, I1, r1, q1⟩ => ?_) hs rfl))
  obtain ⟨x, ex, q⟩ := q1
  subst ex
  cases r1 with
  | cons r rr =>
    cases rr
    obtain ⟨t, rfl⟩ := r
    refine call_enumerate_str fun h' he hit hsz hk => wpAny_pyIter_enum he ?_
    have I2 : Inv X pins σ H1 { s1 with heap := h' } := I1.kept (t' := s1.toks) hk
    refine ⟨s1.heap.objs.size + 1, [s1.heap.objs.size + 1, s1.heap.objs.size], _, _, H1, rfl, I2, turn_enumS x t (s1.heap.objs.size + 1) s1.heap.objs.size, ⟨⟨.none, he⟩, hit, Nat.succ_ne_self _⟩, fun b hb => ?_, q⟩
    have e' : b = s1.heap.objs.size + 1 ∨ b = s1.heap.objs.size := by simpa using hb
    have hle : s1.heap.objs.size ≤ b := by
      rcases e' with z | z
      · rw [z]; exact Nat.le_add_right _ _
      · rw [z]; exact Nat.le_refl _
    exact I1.fpOk hle (I1.hok.fresh hle)
end L2

/-! A try whose clauses may each have a name or none. An exception that has come to the frame is a package (GotX); each way of a clause is a lemma over it. -/
namespace L2
open PySem PySem.Spec PyProof.Rows
abbrev TSu := Addr → Value → Option Addr → TS
/-- behind a clause with a name: its slot is empty again -/
def Ends.drop (D : Ends) (i : Nat) : Ends := { nx := fun σ H => D.nx (σ.set i none) H, rt := D.rt, bk := fun σ H => D.bk (σ.set i none) H, ct := fun σ H => D.ct (σ.set i none) H }
/-- one clause: the class it names, its slot, its suite -/
structure Clause where
  c : Value
  slot : Option Nat
  ts : TSu
def Clause.does (q : Clause) (cls : Value) (d : Option Addr) (D : Ends) (σ : St) (H : Hp) (a : Addr) : Prop :=
  match q.slot with
  | none => q.ts a cls d D σ H
  | some i => q.ts a cls d (D.drop i) (σ.set i (some (.ref a))) H
/-- what is wanted of an exception at these clauses -/
def wMix (K : PySem.W.Frag) (Wout : WX) (D : Ends) : List Clause → WX
  | [] => Wout
  | q :: r => fun cls d σ H => ∃ b, PySem.W.exmOne K cls q.c = some b ∧ (b = true → ∀ a, H a = none → q.does cls d D σ H a) ∧ (b = false → wMix K Wout D r cls d σ H)
/-- the suite of a clause keeps its reading, whatever exception is at hand -/
def SuiteOk (X : Cx) (suite : List Stmt) (ts : TSu) : Prop :=
  ∀ (a : Addr) (oe : Obj) (cls : Value) (d : Option Addr) (pn : List (Addr × Obj)), Zc cls d oe → (∃ vs, oe.data = .fields vs) → PSs (X.suite a ((a, oe) :: pn)) suite (ts a cls d)
inductive HdsMix (X : Cx) : List ExceptHandler → List Clause → Prop
  | nil : HdsMix X [] []
  | cons {x : Str} {c : Value} {ts : TSu} {b₀ : Stmt} {suite : List Stmt} {np p' : Pos} {hds : List ExceptHandler} {l : List Clause} (hc : Names X x c) (hsu : SuiteOk X (b₀ :: suite) ts) (r : HdsMix X hds l) :
      HdsMix X (.ExceptHandler (some (.Name x np)) none (b₀ :: suite) p' :: hds) (⟨c, none, ts⟩ :: l)
  | consA {x n : Str} {c : Value} {i : Nat} {ts : TSu} {b₀ : Stmt} {suite : List Stmt} {np p' : Pos} {hds : List ExceptHandler} {l : List Clause} (hi : X.N[i]? = some n) (hln : X.env.kindOf n = some .local) (hc : Names X x c) (hsu : SuiteOk X (b₀ :: suite) ts) (r : HdsMix X hds l) :
      HdsMix X (.ExceptHandler (some (.Name x np)) (some n) (b₀ :: suite) p' :: hds) (⟨c, some i, ts⟩ :: l)

/-- an exception at a has come to this frame, noted and with no flight: B the ground, sI the state without it -/
structure GotX (X : Cx) (pins : List (Addr × Obj)) (σ : St) (H : Hp) (B : Heap) (sI s : Shared) (a : Addr) (cls : Value) (d : Option Addr) : Prop where
  inv : Inv X pins σ H sI
  nb : ∀ b o, sI.heap.get? b = some o → b ∉ frs X.stack → B.get? b = some o
  fl : HandSPX.FlyingZ B (X.env :: X.outer) a (Zc cls d) s.heap
  up : sI.heap.UpToSlots s.heap
  na : H a = none
  os : s.os = sI.os
  ag : AllBare s.gens
section
variable {X : Cx} {pins : List (Addr × Obj)} {σ : St} {H : Hp} {B : Heap} {sI s : Shared} {a : Addr} {cls : Value} {d : Option Addr}
theorem GotX.here (g : GotX X pins σ H B sI s a cls d) : Inv X pins σ H s := by
  obtain ⟨hh, gg, dd, tt, oo⟩ := s
  exact g.inv.landed g.nb g.fl.1 g.up g.os g.ag
/-- it is no frame of those that run -/
theorem GotX.apart (g : GotX X pins σ H B sI s a cls d) (hf : X.env.frame = some X.env.locals) : a ≠ X.env.locals ∧ a ∉ X.fs := by
  obtain ⟨oe, vs, he, _, hd⟩ := g.fl.there
  have no : a ∉ frs (X.env :: X.outer) := by
    intro hm
    obtain ⟨_, o', e', hnf⟩ := g.fl.2.2.1.mem hm
    rw [he] at e'
    cases e'
    exact hnf _ hd
  have eq : frs (X.env :: X.outer) = X.env.locals :: X.fs := by
    show List.filterMap _ _ = _
    rw [List.filterMap_cons, hf]
    rfl
  rw [eq] at no
  exact ⟨fun z => no (z ▸ List.mem_cons_self), fun z => no (List.mem_cons_of_mem _ z)⟩
/-- the state of a suite -/
theorem GotX.suite (g : GotX X pins σ H B sI s a cls d) (hf : X.env.frame = some X.env.locals) :
    ∃ oe, Zc cls d oe ∧ (∃ vs, oe.data = .fields vs) ∧ s.heap.get? a = some oe ∧ Inv (X.suite a ((a, oe) :: (X.pn ++ pins))) [] σ H s := by
  obtain ⟨oe, vs, he, hz, hd⟩ := g.fl.there
  exact ⟨oe, hz, ⟨vs, hd⟩, he, g.here.suite he hd g.na (g.apart hf).1 (g.apart hf).2⟩
/-- no clause took it -/
theorem GotX.passes (g : GotX X pins σ H B sI s a cls d) (hs : X.stack = X.env :: X.outer) (hf : X.env.frame = some X.env.locals) {W : WX} (tk : Takes X W) (hw : W cls d σ H) {Q : Flow → Shared → Prop} :
    wpAny (model X.prog X.w) X.A (handleBy (.ref a) X.env []) Q X.xe s := by
  refine wpAny_handleBy_nil ?_
  have on : wpAny (model X.prog X.w) X.A (setFlight (.ref a) X.env.frame) (fun _ s4 => wpAny (model X.prog X.w) X.A (throw (.ref a) : Sem Flow) Q X.xe s4) X.xe s := by
    rw [hf]
    refine HandSPX.setFlight_upZ g.fl fun h4 held up4 => wpAny_throw (tk _ _ ?_)
    refine ⟨a, B, sI, pins, σ, H, cls, d, rfl, g.inv, g.nb, g.up.trans up4, .inr (.inr ?_), g.na, g.os, g.ag, hw⟩
    rw [hs]
    exact held
  obtain ⟨_, _, _, oe, vs, T, _, _, he, _, hd, h1, _⟩ := g.fl
  unfold PySem.passOn
  refine wpAny_bind (wpAny_field he hd h1 ?_)
  rw [if_neg (by simp)]
  first
    | exact wpAny_bind (wpAny_pure (wpAny_bind on))
    | exact wpAny_bind on
/-- the clause's class is looked up and held against the exception's -/
theorem GotX.asked (g : GotX X pins σ H B sI s a cls d) (hf : X.env.frame = some X.env.locals) {x : Str} {c : Value} {np : Pos} {b : Bool} (hc : Names X x c) (hb : PySem.W.exmOne X.K cls c = some b) {Q : Bool → Shared → Prop} {E : Value → Shared → Prop} (hq : Q b s) :
    wpAny (model X.prog X.w) (X.A.mark (some (.ref a))) (eval (.Name x np) X.env) (fun v s1 => wpAny (model X.prog X.w) (X.A.mark (some (.ref a))) (excMatches (.ref a) v) Q E s1) E s := by
  obtain ⟨oe, hz, _, he, S⟩ := g.suite hf
  have L := PySem.W.exm_one (M := model X.prog X.w) g.here.kIn (fun A Q E s k q => wpAny_typeOf_ref (k _ _ he) (by rw [hz.1]; exact q)) hb
  obtain ⟨h1, h2, h3⟩ := hc
  rcases h3 with h3 | ⟨h3, h4, h5⟩
  · exact ld_glob (X := X.suite a ((a, oe) :: (X.pn ++ pins))) S h1 h3 (L.here hq) h2
  · exact ld_blt (X := X.suite a ((a, oe) :: (X.pn ++ pins))) S h1 h3 h4 (L.here hq) h5 h2
theorem GotX.again (g : GotX X pins σ H B sI s a cls d) {Q : Unit → Shared → Prop} {M : Model} {A : Around} {E : Value → Shared → Prop} (k : ∀ h', GotX X pins σ H B sI { s with heap := h' } a cls d → Q () { s with heap := h' }) : wpAny M A (setFlight (.ref a) none) Q E s :=
  HandSPX.lands_againZ g.fl fun h4 fl4 up4 => k h4 ⟨g.inv, g.nb, fl4, g.up.trans up4, g.na, g.os, g.ag⟩
theorem SP.unsuite {pn : List (Addr × Obj)} {q : Addr × Obj} {D : Ends} {f : Flow} {s' : Shared} (ok : X.Ok) (h : SP (X.suite a (q :: (X.pn ++ pins))) pn D f s') : SP X pins D f s' := by
  cases f with
  | next => exact let ⟨σ', H', I, z⟩ := h; ⟨σ', H', I.unsuite ok, z⟩
  | brk => exact let ⟨σ', H', I, z⟩ := h; ⟨σ', H', I.unsuite ok, z⟩
  | cont => exact let ⟨σ', H', I, z⟩ := h; ⟨σ', H', I.unsuite ok, z⟩
  | ret u => exact let ⟨v, σ', H', I, r, z⟩ := h; ⟨v, σ', H', I.unsuite ok, r, z⟩
theorem SP.ofTry {pn : List (Addr × Obj)} {xe : Value → Shared → Prop} {D : Ends} {f : Flow} {s' : Shared} (ok : X.Ok) (h : SP (X.tr (X.pn ++ pins) xe) pn D f s') : SP X pins D f s' := by
  cases f with
  | next => exact let ⟨σ', H', I, z⟩ := h; ⟨σ', H', I.ofTry ok, z⟩
  | brk => exact let ⟨σ', H', I, z⟩ := h; ⟨σ', H', I.ofTry ok, z⟩
  | cont => exact let ⟨σ', H', I, z⟩ := h; ⟨σ', H', I.ofTry ok, z⟩
  | ret u => exact let ⟨v, σ', H', I, r, z⟩ := h; ⟨v, σ', H', I.ofTry ok, r, z⟩
/-- behind a suite with a name the name goes -/
theorem SP.unname {D : Ends} {i : Nat} {n : Str} {p' : Pos} {f : Flow} {s' : Shared} (hN : X.N.Nodup) (hi : X.N[i]? = some n) (hln : X.env.kindOf n = some .local) (h : SP X pins (D.drop i) f s') :
    wpAny (model X.prog X.w) X.A (do bindName X.env n .none; unbindBehindTheSuite X.env n p') (fun _ s7 => SP X pins D f s7) X.xe s' := by
  cases f with
  | next => exact let ⟨_, _, I, z⟩ := h; gone_ok I hN hi hln fun _ J => ⟨_, _, J, z⟩
  | brk => exact let ⟨_, _, I, z⟩ := h; gone_ok I hN hi hln fun _ J => ⟨_, _, J, z⟩
  | cont => exact let ⟨_, _, I, z⟩ := h; gone_ok I hN hi hln fun _ J => ⟨_, _, J, z⟩
  | ret u => exact let ⟨_, _, _, I, r, z⟩ := h; gone_ok I hN hi hln fun _ J => ⟨_, _, _, J, r, z⟩
/-- all clauses -/
theorem GotX.clauses (hs : X.stack = X.env :: X.outer) (hf : X.env.frame = some X.env.locals) (hN : X.N.Nodup) {W : WX} (tk : Takes X W) {D : Ends} {hds : List ExceptHandler} {l : List Clause} (hk : HdsMix X hds l) :
    ∀ {s : Shared}, GotX X pins σ H B sI s a cls d → wMix X.K W D l cls d σ H → wpAny (model X.prog X.w) X.A (handleBy (.ref a) X.env hds) (SP X pins D) X.xe s := by
  induction hk with
  | nil => exact fun g w => g.passes hs hf tk w
  | cons hc hsu _ ih =>
    intro s g w
    obtain ⟨b, hb, yes, no⟩ := w
    refine wpAny_handleBy_cons (codeAny_handlers_test (g.asked hf hc hb ?_)) (by intro q; cases q)
    cases b
    · exact ih g (no rfl)
    · refine codeAny_handlers_suite (g.again fun h4 g4 => ?_)
      obtain ⟨oe, hz, hd, he, S⟩ := g4.suite hf
      exact wpAny_mono ((hsu a oe cls d _ hz hd).run [] _ σ H D S (yes rfl a g.na)) (fun _ _ z => z.unsuite g.inv.ok) fun _ _ z => z.elim
  | consA hi hln hc hsu _ ih =>
    intro s g w
    obtain ⟨b, hb, yes, no⟩ := w
    refine wpAny_handleBy_cons (codeAny_handlers_test (g.asked hf hc hb ?_)) (by intro q; cases q)
    cases b
    · exact ih g (no rfl)
    · refine codeAny_handlers_suite_as (g.again fun h4 g4 => ?_)
      obtain ⟨oe, hz, hd, he, S⟩ := g4.suite hf
      refine store_ok (X := X.suite a ((a, oe) :: (X.pn ++ pins))) (v := .ref a) S hN hi (.inl hln) rfl (fun s5 S5 => ?_) (.inr hln)
      exact wpAny_mono ((hsu a oe cls d _ hz hd).run [] s5 _ H _ S5 (yes rfl a g.na)) (fun _ _ z => (z.unsuite g.inv.ok).unname hN hi hln) fun _ _ z => z.elim
/-- THE RULE -/
theorem ps_try_mix {body : List Stmt} {h₀ : ExceptHandler} {hds : List ExceptHandler} {l : List Clause} {pos : Pos} {tb : WX → TS} {Wout : WX} (hs : X.stack = X.env :: X.outer) (hf : X.env.frame = some X.env.locals) (hN : X.N.Nodup) (tk : Takes X Wout)
    (hb : ∀ (W : WX) (pn : List (Addr × Obj)) (xe : Value → Shared → Prop), Takes (X.tr pn xe) W → PassesOwn (model X.prog X.w) X.A X.env xe → PSs (X.tr pn xe) body (tb W)) (hh : HdsMix X (h₀ :: hds) l) :
    PS X (.Try body (h₀ :: hds) [] [] pos) (fun D σ H => tb (wMix X.K Wout D l) D σ H) := by
  constructor
  intro pins s σ H D I h
  refine wpAny_Try_except (wpAny_mono ((hb (wMix X.K Wout D l) (X.pn ++ pins) _ ?_ PassesOwn.looking).run [] s σ H D (I.toTry _) h) (fun f s1 z => ?_) fun _ _ z => z)
  · rintro u s' ⟨a, B, sI, pins', σ', H', cls, d, rfl, J', nb, up, sky, na, os, ag, w⟩
    have J : Inv X pins σ' H' sI := J'.ofTry I.ok
    have sky' : Sky B (X.env :: X.outer) a (Zc cls d) X.env.locals s'.heap := by
      rw [← hs]
      exact sky
    show wpAny (model X.prog X.w) X.A (noteFrame (.ref a) X.env) _ _ _
    refine Sky.land Zc.steady (by rw [I.ok.frames, hs]) hf sky' fun h3 fl3 up3 => ?_
    exact GotX.clauses hs hf hN tk hh ⟨J, nb, fl3, up.trans up3, na, os, ag⟩ w
  · have z' := z.ofTry I.ok
    cases f with
    | next => exact wpAny_execs_nil z'
    | brk => exact z'
    | cont => exact z'
    | ret u => exact z'
end
end L2

/-! Calls of defs, methods and classes of the program; what they raise is wished for at the caller's slots. -/
namespace L2
open PySem PySem.Spec PyProof.Rows
section
variable {X : Cx} {CX : CXT} {k : Nat} {f C : Addr} {fd : FuncData} {ps : List Str} {sp : Sp} {dvs : List V} {ds : List Value} {E : St → XK} {x m : Str} {p pos apos : Pos} {e o : Expr} {es : List Expr} {ta : TE} {t : TA}
theorem pe_call0S (F : FnOk X.prog X.w X.K X.mg X.base CX k f fd ps sp) (hr : Room k X.A) (hg : Gl X x) (hm : X.mg x = some (.ref f)) (hk : PySem.W.keepIn X.K (.ref f) = true) (hb : Binds X.K fd ps ds) (hd : Vals dvs ds) (hx : ∀ σ, PassesAt CX X σ (E σ))
    (hdb : (x == ("__debug__" : Str)) = false := by decide) : PE X (.Call (.Name x p) [] [] pos) (tCallSD sp dvs E tNil) :=
  ⟨fun _ _ σ _ _ I h => wpAny_Call_Name_kw (ld_glob I hg hm (PySem.W.callWith_K0 I.kIn hk (run_fnSD (us := []) F hr hb hd (hx σ) I .nil h)) hdb)⟩
/-- o.m(..) -/
def tMethZ (C : Addr) (m : Str) (sp : Sp) (dvs : List V) (E : St → XK) (ta : TE) (t : TA) : TE := fun σ H Q => ta σ H fun y H1 => ∃ a dx fs, y = .ref a ∧ H1 a = some (.ins C dx fs) ∧ fs.lookup m = none ∧
  t σ H1 fun vs H2 => sp (y :: (vs ++ dvs)) H2 Q (E σ)
/-- C(..) -/
def tMakeS (C : Addr) (sp : Sp) (dvs : List V) (E : St → XK) (t : TA) : TE := fun σ H Q => t σ H fun vs H1 => ∀ y dx, H1 y = none → H1 dx = none → dx ≠ y →
  sp (.ref y :: (vs ++ dvs)) (upd (upd H1 dx (.own y)) y (.ins C dx [])) (fun v H2 => v = .non ∧ Q (.ref y) H2) (E σ)
theorem pe_methZ {pl : Sem Bool} (he : PE X o ta) (c : Cls X.K C) (hm : Meth X.K C m f) (F : FnOk X.prog X.w X.K X.mg X.base CX k f fd ps sp) (hr : Room k X.A) (hb : Binds X.K fd ps ds) (hd : Vals dvs ds) (hx : ∀ σ, PassesAt CX X σ (E σ)) (ha : PA X (e :: es) t)
    (hst : starEach (e :: es) X.env = (false, eval e X.env) :: starEach es X.env := by rfl) (hpl : (backTo pos (starEach es X.env)).any (·.1) = false := by rfl)
    (ht : eval (.Call (.Attribute o m apos) (e :: es) [] pos) X.env = (eval o X.env >>= fun ov => standAt apos.atName >>= fun _ => holding [ov] (getMethod ov m pl) >>= fun ff => callWith pos ff.1 ff.2 (backTo pos (starEach (e :: es) X.env)) (backToKw pos (keywordEach [] X.env))) := by rfl) :
    PE X (.Call (.Attribute o m apos) (e :: es) [] pos) (tMethZ C m sp dvs E ta t) := by
  constructor
  intro pins s σ H Q I h
  refine PySem.W.methodCall_KW (pl := pl) (thn (he.run pins s σ H _ I h) ?_) ht
  rintro u s1 ⟨y, H1, I1, ry, a, dx, fs, rfl, ea, l, q⟩
  cases ry
  refine getmeth_ok I1 ea c hm l (PySem.W.callWith_K (first := [.ref a]) (h₀ := X.base) I.ok.mod.kin hm.kp (thn (ha.run pos pins s1 σ H1 _ I1 q) ?_) hst hpl)
  rintro us s2 ⟨vs, H2, I2, r, q2⟩
  exact ⟨I2.kIn, run_fnSD (us := .ref a :: us) (vs := .ref a :: vs) F hr hb hd (hx σ) I2 (.cons rfl r) q2⟩
theorem pe_meth0Z {pl : Sem Bool} (he : PE X o ta) (c : Cls X.K C) (hm : Meth X.K C m f) (F : FnOk X.prog X.w X.K X.mg X.base CX k f fd ps sp) (hr : Room k X.A) (hb : Binds X.K fd ps ds) (hd : Vals dvs ds) (hx : ∀ σ, PassesAt CX X σ (E σ))
    (ht : eval (.Call (.Attribute o m apos) [] [] pos) X.env = (eval o X.env >>= fun ov => standAt apos.atName >>= fun _ => holding [ov] (getMethod ov m pl) >>= fun ff => callWith pos ff.1 ff.2 (backTo pos (starEach [] X.env)) (backToKw pos (keywordEach [] X.env))) := by rfl) :
    PE X (.Call (.Attribute o m apos) [] [] pos) (tMethZ C m sp dvs E ta tNil) := by
  constructor
  intro pins s σ H Q I h
  refine PySem.W.methodCall_KW (pl := pl) (thn (he.run pins s σ H _ I h) ?_) ht
  rintro u s1 ⟨y, H1, I1, ry, a, dx, fs, rfl, ea, l, q⟩
  cases ry
  exact getmeth_ok I1 ea c hm l (PySem.W.callWith_K0 (first := [.ref a]) I1.kIn hm.kp (run_fnSD (us := [.ref a]) (vs := [.ref a]) F hr hb hd (hx σ) I1 (.cons rfl .nil) q))
theorem run_makeS {pins : List (Addr × Obj)} {σ : St} {H : Hp} {s : Shared} {Q : VK} {us : List Value} {vs : List V} (M : Mk X.K C f) (F : FnOk X.prog X.w X.K X.mg X.base CX k f fd ps sp) (hr : Room (k + 1) X.A) (hb : Binds X.K fd ps ds) (hd : Vals dvs ds)
    (hx : PassesAt CX X σ (E σ)) (I : Inv X pins σ H s) (r : Vals vs us)
    (h : ∀ y dx, H y = none → H dx = none → dx ≠ y → sp (.ref y :: (vs ++ dvs)) (upd (upd H dx (.own y)) y (.ins C dx [])) (fun v H2 => v = .non ∧ Q (.ref y) H2) (E σ)) :
    wpAny (model X.prog X.w) X.A (call (.ref C) us) (EP X pins σ Q) X.xe s := by
  have I2 := Inv.made (C := C) I
  have q := h (s.heap.objs.size + 1) s.heap.objs.size (I.hok.fresh (Nat.le_succ _)) (I.hok.fresh (Nat.le_refl _)) (Nat.ne_of_lt (Nat.lt_succ_self _))
  have rr : Vals (V.ref (s.heap.objs.size + 1) :: (vs ++ dvs)) (Value.ref (s.heap.objs.size + 1) :: us ++ ds) := .cons rfl (r.append hd)
  have hl : (Value.ref (s.heap.objs.size + 1) :: us ++ ds).length = ps.length := rr.length.symm.trans (F.len _ _ _ _ q)
  have run := F.run _ X.stack _ _ ⟨Value.ref (s.heap.objs.size + 1) :: us, []⟩ _ _ _ (E σ) (hr.make C us []) (I2.env0.make C us []) (hb _ (Value.ref (s.heap.objs.size + 1) :: us) I2.kIn hl) rr q
  refine wpAny_call (make_map (f := f) I.kIn M.makes M.init (beq_iff_eq.mp M.fn) (codeAny_mono run ?_))
  intro res s' hq
  match res, hq with
  | .error e, hq => exact hx pins _ _ e s' I2 hq
  | .ok (.ret u), hq =>
    obtain ⟨v, H', I3, rv, ev, q3⟩ := I2.after hq
    subst ev
    exact ⟨rv, V.ref (s.heap.objs.size + 1), H', I3, rfl, q3⟩
  | .ok .next, hq => exact hq.elim
  | .ok .brk, hq => exact hq.elim
  | .ok .cont, hq => exact hq.elim
theorem pe_makeS (M : Mk X.K C f) (F : FnOk X.prog X.w X.K X.mg X.base CX k f fd ps sp) (hr : Room (k + 1) X.A) (hg : Gl X x) (hm : X.mg x = some (.ref C)) (hb : Binds X.K fd ps ds) (hd : Vals dvs ds) (hx : ∀ σ, PassesAt CX X σ (E σ))
    (ha : PA X (e :: es) t) (hdb : (x == ("__debug__" : Str)) = false := by decide) (he : starEach (e :: es) X.env = (false, eval e X.env) :: starEach es X.env := by rfl) (hpl : (backTo pos (starEach es X.env)).any (·.1) = false := by rfl) :
    PE X (.Call (.Name x p) (e :: es) [] pos) (tMakeS C sp dvs E t) := by
  constructor
  intro pins s σ H Q I h
  refine wpAny_Call_Name_kw (ld_glob I hg hm (PySem.W.callWith_K (h₀ := X.base) I.ok.mod.kin M.kp (thn (ha.run pos pins s σ H _ I h) ?_) he hpl) hdb)
  rintro us s1 ⟨vs, H1, I1, r, q⟩
  exact ⟨I1.kIn, run_makeS M F hr hb hd (hx σ) I1 r q⟩
theorem pe_make0S (M : Mk X.K C f) (F : FnOk X.prog X.w X.K X.mg X.base CX k f fd ps sp) (hr : Room (k + 1) X.A) (hg : Gl X x) (hm : X.mg x = some (.ref C)) (hb : Binds X.K fd ps ds) (hd : Vals dvs ds) (hx : ∀ σ, PassesAt CX X σ (E σ))
    (hdb : (x == ("__debug__" : Str)) = false := by decide) : PE X (.Call (.Name x p) [] [] pos) (tMakeS C sp dvs E tNil) :=
  ⟨fun _ _ σ _ _ I h => wpAny_Call_Name_kw (ld_glob I hg hm (PySem.W.callWith_K0 I.kIn M.kp (run_makeS (us := []) M F hr hb hd (hx σ) I .nil h)) hdb)⟩
end
end L2

/-! Operators and built-ins by values, whatever the kinds of the operands; how a reading goes on is a lemma each. -/
namespace L2
open PySem PySem.Spec PyProof.Rows
abbrev Frg := PySem.W.Frag
/-! ### + -/
def rAddS : R2 := fun x y H Q => ∃ i j, x = .str i ∧ y = .str j ∧ i.length + j.length ≤ sizeLine ∧ Q (.str (i ++ j)) H
def rAddA : R2 := fun x y H Q => rI0 (fun i j => .int (i + j)) x y H Q ∨ rAddS x y H Q ∨ rCat x y H Q
theorem op_addA {X : Cx} : OpR X (binaryOp .Add) rAddA := op_add.or (OpR.or op_add_str op_cat)
theorem addA_int {i j : Int} {H : Hp} {Q : VK} (h : Q (.int (i + j)) H) : rAddA (.int i) (.int j) H Q := .inl ⟨_, _, rfl, rfl, h⟩
theorem addA_str {i j : Str} {H : Hp} {Q : VK} (hz : i.length + j.length ≤ sizeLine) (h : Q (.str (i ++ j)) H) : rAddA (.str i) (.str j) H Q := .inr (.inl ⟨_, _, rfl, rfl, hz, h⟩)
theorem addA_lst {a b : Addr} {xs ys : List V} {H : Hp} {Q : VK} (ha : H a = some (.lst xs)) (hb : H b = some (.lst ys)) (hz : xs.length + ys.length ≤ sizeLine) (h : ∀ p, H p = none → Q (.ref p) (upd H p (.lst (xs ++ ys)))) :
    rAddA (.ref a) (.ref b) H Q := .inr (.inr ⟨_, _, _, _, rfl, rfl, ha, hb, hz, h⟩)
/-! ### - // % ** -/
abbrev rSubA : R2 := rI0 fun i j => .int (i - j)
abbrev rDivA : R2 := rI CDivW fun i j => .int (i / j)
abbrev rModA : R2 := rI (fun _ j => 0 < j) fun i j => .int (i % j)
abbrev rPowA : R2 := rI CPow fun i j => .int (i ^ j.toNat)
theorem op_subA {X : Cx} : OpR X (binaryOp .Sub) rSubA := op_sub
theorem op_divA {X : Cx} : OpR X (binaryOp .FloorDiv) rDivA := op_fdivW
theorem op_modA {X : Cx} : OpR X (binaryOp .Mod) rModA := op_mod
theorem op_powA {X : Cx} : OpR X (binaryOp .Pow) rPowA := op_pow
/-! ### * -/
def repS (z : Str) (k : Nat) : Str := ⟨((List.replicate k z.cps.toList).flatten).toArray⟩
theorem fold_rep (z : Array Nat) : ∀ (n : Nat) (acc : Array Nat), (List.replicate n z).foldl (· ++ ·) acc = acc ++ ((List.replicate n z.toList).flatten).toArray
  | 0, acc => by simp
  | n + 1, acc => by
    rw [List.replicate_succ, List.foldl_cons, fold_rep z n, List.replicate_succ, List.flatten_cons]
    apply Array.ext'
    simp
theorem repS_length (z : Str) (k : Nat) : (repS z k).length = k * z.length := by
  show ((List.replicate k z.cps.toList).flatten).toArray.size = k * z.cps.size
  simp
def rRepS : R2 := fun x y H Q => ∃ z k, x = .str z ∧ y = .int k ∧ 0 ≤ k ∧ k ≤ 4096 ∧ z.length ≤ 4096 ∧ Q (.str (repS z k.toNat)) H
theorem op_repS {X : Cx} : OpR X (binaryOp .Mult) rRepS := by
  intro pins s σ H x y v u Q I rx ry h
  obtain ⟨z, k, rfl, rfl, h1, h2, h3, q⟩ := h
  obtain ⟨t, rfl⟩ := rx
  obtain ⟨t', rfl⟩ := ry
  have hs : sizeLine = 16777216 := sizeLine_eq
  by_cases k0 : k = 0
  · subst k0
    refine P.mul_str_none (by omega) (by omega) ?_
    have e0 : repS z (0 : Int).toNat = Str.empty := by show (⟨#[]⟩ : Str) = Str.empty; decide +kernel
    exact ⟨.str (repS z (0 : Int).toNat), H, I.tok _, ⟨_, by rw [e0]⟩, q⟩
  have hlen : z.length * k.toNat ≤ 16777216 := Nat.le_trans (Nat.mul_le_mul h3 (by omega : k.toNat ≤ 4096)) (by decide)
  refine P.mul_str (by rw [decide_eq_false (by omega), decide_eq_false (by omega)]; rfl) (fun _ _ => ?_) (fun _ _ => ?_) ?_
  · have hk : 0 < k := by omega
    have hd : (4096 : Int) ≤ (2 ^ 63 - 1) / k := by
      rw [Int.le_ediv_iff_mul_le hk]
      have : (4096 : Int) * k ≤ 4096 * 4096 := by omega
      omega
    omega
  · unfold PySem.Builtin.Str.tooLong
    rw [hs]
    exact decide_eq_false (by omega)
  · rw [if_neg (by omega)]
    by_cases hc : (k == 1 || z.length == 0) = true
    · rw [if_pos hc]
      have e : repS z k.toNat = z := by
        rcases Bool.or_eq_true_iff.mp hc with c | c
        · have : k = 1 := by simpa using c
          subst this
          unfold repS
          simp
        · have c0 : z.length = 0 := by simpa using c
          have hz : z.cps = #[] := Array.eq_empty_of_size_eq_zero c0
          obtain ⟨zc⟩ := z
          simp only at hz
          subst hz
          unfold repS
          simp
      rw [e] at q
      exact ⟨.str z, H, I, ⟨t, rfl⟩, q⟩
    · rw [if_neg hc]
      have e : (⟨(List.replicate k.toNat z.cps).foldl (· ++ ·) #[]⟩ : Str) = repS z k.toNat := by
        unfold repS
        rw [fold_rep]
        simp
      refine ⟨?_, ?_⟩
      · rw [e, repS_length, hs]
        rw [Nat.mul_comm]
        exact hlen
      · rw [e]
        exact ⟨.str (repS z k.toNat), H, I.tok _, ⟨_, rfl⟩, q⟩
def rMulA : R2 := fun x y H Q => rI CMul (fun i j => .int (i * j)) x y H Q ∨ rRep x y H Q ∨ rRepS x y H Q
theorem op_mulA {X : Cx} : OpR X (binaryOp .Mult) rMulA := op_mul.or (OpR.or op_rep op_repS)
theorem mulA_int {i j : Int} {H : Hp} {Q : VK} (hc : CMul i j) (h : Q (.int (i * j)) H) : rMulA (.int i) (.int j) H Q := .inl ⟨_, _, rfl, rfl, hc, h⟩
theorem mulA_str {z : Str} {k : Int} {H : Hp} {Q : VK} (h1 : 0 ≤ k) (h2 : k ≤ 4096) (h3 : z.length ≤ 4096) (h : Q (.str (repS z k.toNat)) H) : rMulA (.str z) (.int k) H Q := .inr (.inr ⟨_, _, rfl, rfl, h1, h2, h3, h⟩)
/-! ### == and != -/
def rEqA (K : Frg) : R2 := fun x y H Q => rEq x y H Q ∨ rEqD K x y H Q
def rNeA (K : Frg) : R2 := fun x y H Q => rNe x y H Q ∨ rNeD K x y H Q
theorem op_eqA {X : Cx} {k : Nat} (hr : Room k X.A) : OpR X (compareOp .Eq) (rEqA X.K) := op_eq.or (op_eqD hr.units)
theorem op_neA {X : Cx} {k : Nat} (hr : Room k X.A) : OpR X (compareOp .NotEq) (rNeA X.K) := op_ne.or (op_neD hr.units)
theorem decI (i j : Int) : decide (V.int i = V.int j) = decide (i = j) := by rw [dec_int, Bool.beq_eq_decide_eq]
theorem decS (i j : Str) : decide (V.str i = V.str j) = decide (i = j) := by rw [dec_str, Bool.beq_eq_decide_eq]
theorem eqA_int {K : Frg} {i j : Int} {H : Hp} {Q : VK} (h : Q (.bl (decide (i = j))) H) : rEqA K (.int i) (.int j) H Q := .inl ⟨rfl, by rw [decI]; exact h⟩
theorem eqA_str {K : Frg} {i j : Str} {H : Hp} {Q : VK} (h : Q (.bl (decide (i = j))) H) : rEqA K (.str i) (.str j) H Q := .inl ⟨rfl, by rw [decS]; exact h⟩
theorem neA_int {K : Frg} {i j : Int} {H : Hp} {Q : VK} (h : Q (.bl (!decide (i = j))) H) : rNeA K (.int i) (.int j) H Q := .inl ⟨rfl, by rw [decI]; exact h⟩
theorem neA_str {K : Frg} {i j : Str} {H : Hp} {Q : VK} (h : Q (.bl (!decide (i = j))) H) : rNeA K (.str i) (.str j) H Q := .inl ⟨rfl, by rw [decS]; exact h⟩
theorem eqA_data {K : Frg} {x y : V} {d e : PyData} {b : Bool} {H : Hp} {Q : VK} (hd : Dp K H x d) (he : Dp K H y e) (sd : SeqAt.shaped d = true) (se : SeqAt.shaped e = true) (hb : PyData.eqv d e = b) (h : Q (.bl b) H) : rEqA K x y H Q :=
  .inr ⟨d, e, hd, he, sd, se, by rw [hb]; exact h⟩
theorem neA_data {K : Frg} {x y : V} {d e : PyData} {b : Bool} {H : Hp} {Q : VK} (hd : Dp K H x d) (he : Dp K H y e) (sd : SeqAt.shaped d = true) (se : SeqAt.shaped e = true) (hb : PyData.eqv d e = b) (h : Q (.bl (!b)) H) : rNeA K x y H Q :=
  .inr ⟨d, e, hd, he, sd, se, by rw [hb]; exact h⟩
/-! ### < <= > >= -/
def rLtS : R2 := fun x y H Q => ∃ i j, x = .str i ∧ y = .str j ∧ Q (.bl (decide (i.cps.toList < j.cps.toList))) H
def rLtA : R2 := fun x y H Q => rI0 (fun i j => .bl (decide (i < j))) x y H Q ∨ rLtS x y H Q
theorem op_ltA {X : Cx} : OpR X (compareOp .Lt) rLtA := op_lt.or op_lt_str
abbrev rLeA : R2 := rI0 fun i j => .bl (decide (i ≤ j))
abbrev rGtA : R2 := rI0 fun i j => .bl (decide (j < i))
abbrev rGeA : R2 := rI0 fun i j => .bl (decide (j ≤ i))
theorem op_leA {X : Cx} : OpR X (compareOp .LtE) rLeA := op_le
theorem op_gtA {X : Cx} : OpR X (compareOp .Gt) rGtA := op_gt
theorem op_geA {X : Cx} : OpR X (compareOp .GtE) rGeA := op_ge
theorem ltA_int {i j : Int} {H : Hp} {Q : VK} (h : Q (.bl (decide (i < j))) H) : rLtA (.int i) (.int j) H Q := .inl ⟨_, _, rfl, rfl, h⟩
theorem i0_go {g : Int → Int → V} {i j : Int} {H : Hp} {Q : VK} (h : Q (g i j) H) : rI0 g (.int i) (.int j) H Q := ⟨_, _, rfl, rfl, h⟩
theorem i_go {C : Int → Int → Prop} {g : Int → Int → V} {i j : Int} {H : Hp} {Q : VK} (hc : C i j) (h : Q (g i j) H) : rI C g (.int i) (.int j) H Q := ⟨_, _, rfl, rfl, hc, h⟩
/-! ### in, not in -/
def rInS : R2 := fun x y H Q => ∃ (c : Nat) (z : Str), x = .str ⟨#[c]⟩ ∧ y = .str z ∧ Q (.bl (decide (c ∈ z.cps.toList))) H
def rNotInS : R2 := fun x y H Q => ∃ (c : Nat) (z : Str), x = .str ⟨#[c]⟩ ∧ y = .str z ∧ Q (.bl (!decide (c ∈ z.cps.toList))) H
def rInT : R2 := fun x y H Q => ∃ i j, x = .str i ∧ y = .str j ∧ Q (.bl (!(Builtin.Str.occurrences j i 0 j.length 1).isEmpty)) H
def rInA (K : Frg) : R2 := fun x y H Q => rInS x y H Q ∨ rIn K false x y H Q ∨ rInT x y H Q
def rNotInA (K : Frg) : R2 := fun x y H Q => rNotInS x y H Q ∨ rIn K true x y H Q
theorem op_inA {X : Cx} : OpR X (compareOp .In) (rInA X.K) := op_in_sign.or (OpR.or op_in_seq op_in_str)
theorem op_notInA {X : Cx} : OpR X (compareOp .NotIn) (rNotInA X.K) := op_notIn_sign.or op_notIn_seq
theorem inA_sign {K : Frg} {c : Nat} {z : Str} {H : Hp} {Q : VK} (h : Q (.bl (decide (c ∈ z.cps.toList))) H) : rInA K (.str ⟨#[c]⟩) (.str z) H Q := .inl ⟨c, z, rfl, rfl, h⟩
theorem notInA_sign {K : Frg} {c : Nat} {z : Str} {H : Hp} {Q : VK} (h : Q (.bl (!decide (c ∈ z.cps.toList))) H) : rNotInA K (.str ⟨#[c]⟩) (.str z) H Q := .inl ⟨c, z, rfl, rfl, h⟩
theorem inA_seq {K : Frg} {x : V} {p : Addr} {xs : List V} {H : Hp} {Q : VK} (hp : SqL K H p xs ∨ SqT K H p xs) (hx : flatV x = true) (ha : xs.all flatV = true) (h : Q (.bl (inV x xs)) H) : rInA K x (.ref p) H Q := .inr (.inl ⟨p, xs, rfl, hp, hx, ha, h⟩)
/-! ### is None -/
def rIsN' : R2 := fun x y H Q => y = .non ∧ Q (.bl (decide (x = .non))) H
def rNotN' : R2 := fun x y H Q => y = .non ∧ Q (.bl (!decide (x = .non))) H
theorem op_isA {X : Cx} : OpR X (compareOp .Is) rIsN' := op_isN
theorem op_isNotA {X : Cx} : OpR X (compareOp .IsNot) rNotN' := op_notN
/-! ### subscripts -/
abbrev rIxA := rIx
theorem ixA_lst {K : Frg} {p : Addr} {xs : List V} {i : Int} {v : V} {H : Hp} {Q : VK} (hp : SqL K H p xs) (hi : atI xs i = some v) (h : Q v H) : rIx K (.ref p) (.int i) H Q := .inl ⟨p, xs, i, v, rfl, rfl, hp, hi, h⟩
theorem ixA_tup {K : Frg} {p : Addr} {xs : List V} {i : Int} {v : V} {H : Hp} {Q : VK} (hp : SqT K H p xs) (hi : atI xs i = some v) (h : Q v H) : rIx K (.ref p) (.int i) H Q := .inr (.inl ⟨p, xs, i, v, rfl, rfl, hp, hi, h⟩)
theorem ixA_str {K : Frg} {z : Str} {i : Int} {c : Nat} {H : Hp} {Q : VK} (hz : z.length ≤ sizeLine) (hi : atI z.cps.toList i = some c) (h : Q (.str ⟨#[c]⟩) H) : rIx K (.str z) (.int i) H Q := .inr (.inr ⟨z, i, c, rfl, rfl, hz, hi, h⟩)
abbrev SlV := V → Option Int → Option Int → Hp → VK → Prop
def rSlA (K : Frg) : SlV := fun x lo hi H Q => rSlS x lo hi H Q ∨ rSlL K x lo hi H Q
theorem sl_A {X : Cx} : SlR X (rSlA X.K) := sl_str.or sl_list
theorem slA_str {K : Frg} {z : Str} {lo hi : Option Int} {H : Hp} {Q : VK} (hz : z.length ≤ sizeLine) (h : Q (.str (cutS z lo hi)) H) : rSlA K (.str z) lo hi H Q := .inl ⟨z, rfl, hz, h⟩
theorem slA_lst {K : Frg} {a : Addr} {xs : List V} {lo hi : Option Int} {H : Hp} {Q : VK} (ha : SqL K H a xs) (h : ∀ p, H p = none → Q (.ref p) (upd H p (.lst (cutV xs lo hi)))) : rSlA K (.ref a) lo hi H Q := .inr ⟨a, xs, rfl, ha, h⟩
/-! ### built-ins by their names -/
abbrev RC := List V → Hp → VK → Prop
def rLenA (K : Frg) : RC := fun xs H Q => ∃ x n, xs = [x] ∧ LenV K x H n ∧ Q (.int n) H
theorem c_len {X : Cx} : CallR X (.builtin "len") (rLenA X.K) := call_len
theorem lenA_str {K : Frg} {z : Str} {H : Hp} {Q : VK} (hz : z.length ≤ sizeLine) (h : Q (.int z.length) H) : rLenA K [.str z] H Q := ⟨_, _, rfl, ⟨hz, rfl⟩, h⟩
theorem lenA_lst {K : Frg} {a : Addr} {xs : List V} {H : Hp} {Q : VK} (ha : SqL K H a xs) (h : Q (.int xs.length) H) : rLenA K [.ref a] H Q := ⟨_, _, rfl, .inl ⟨_, ha, rfl⟩, h⟩
theorem lenA_tup {K : Frg} {a : Addr} {xs : List V} {H : Hp} {Q : VK} (ha : SqT K H a xs) (h : Q (.int xs.length) H) : rLenA K [.ref a] H Q := ⟨_, _, rfl, .inr ⟨_, ha, rfl⟩, h⟩
def rAbsA : RC := fun xs H Q => ∃ i, xs = [.int i] ∧ Q (.int (if i < 0 then -i else i)) H
theorem c_abs {X : Cx} : CallR X (.builtin "abs") rAbsA := call_abs
def rIntA : RC := fun xs H Q => (∃ i, xs = [.int i] ∧ Q (.int i) H) ∨ ∃ k, xs = [.bl k] ∧ Q (.int (if k then 1 else 0)) H
theorem c_int {X : Cx} : CallR X (.type "int") rIntA := call_int1
theorem intA_int {i : Int} {H : Hp} {Q : VK} (h : Q (.int i) H) : rIntA [.int i] H Q := .inl ⟨i, rfl, h⟩
def rListA (K : Frg) : RC := fun xs H Q => ∃ p ys, xs = [.ref p] ∧ (SqL K H p ys ∨ SqT K H p ys) ∧ ∀ l, H l = none → Q (.ref l) (upd H l (.lst ys))
theorem c_list {X : Cx} : CallR X (.type "list") (rListA X.K) := call_list_of
def rJoinA (K : Frg) : V → List V → Hp → VK → Prop := fun x xs H Q => ∃ a p, ∃ ys : List Str, x = .str a ∧ xs = [.ref p] ∧ (SqL K H p (ys.map V.str) ∨ SqT K H p (ys.map V.str)) ∧ (ys.map (·.length)).sum + ys.length * a.length ≤ 16777216 ∧ Q (.str (Txt.join a ys)) H
theorem pe_joinA {X : Cx} {o e : Expr} {to te : TE} {apos pos : Pos} (ho : PE X o to) (he : PE X e te) (h1 : starEach [e] X.env = [(false, eval e X.env)] := by rfl) (h2 : attributeBase o "join" X.env (eval o X.env) = eval o X.env := by rfl) (h3 : (apos.endLine == pos.line) = true := by rfl) :
    PE X (.Call (.Attribute o "join" apos) [e] [] pos) (tM1 (rJoinA X.K) to te) := pe_join ho he h1 h2 h3
def rIsiA (K : Frg) : RC := rIsi K
theorem c_isi {X : Cx} : CallR X (.builtin "isinstance") (rIsiA X.K) := call_isi
theorem isi_go {K : Frg} {x c : V} {t u : Value} {b : Bool} {H : Hp} {Q : VK} (hc : ClsV c u) (ht : TyX K H x t) (hk : PySem.W.kitOne K t u = some b) (h : Q (.bl b) H) : rIsiA K [x, c] H Q := ⟨x, c, t, u, b, rfl, hc, ht, hk, h⟩
/-! ### constants of the module -/
theorem pe_gint {X : Cx} {x : Str} {i : Int} {pos : Pos} (hg : Gl X x) (hm : ∃ t, X.mg x = some (.int i t)) (hd : (x == ("__debug__" : Str)) = false := by decide) : PE X (.Name x pos) (tC (.int i)) :=
  let ⟨t, h⟩ := hm; pe_glob hg h ⟨t, rfl⟩ hd
theorem pe_gstr {X : Cx} {x z : Str} {pos : Pos} (hg : Gl X x) (hm : ∃ t, X.mg x = some (.str z t)) (hd : (x == ("__debug__" : Str)) = false := by decide) : PE X (.Name x pos) (tC (.str z)) :=
  let ⟨t, h⟩ := hm; pe_glob hg h ⟨t, rfl⟩ hd
/-- what a def wishes of exceptions -/
def W0 (E : XK) : WX := fun cls d _ H => E cls d H
def WN : WX := fun _ _ _ _ => False
end L2

/-! Built-ins and operators over instances of the program's own classes. -/
namespace L2
open PySem PySem.Spec PyProof.Rows
section
variable {X : Cx} {CX : CXT} {k : Nat} {f C a dx : Addr} {fs : List (Str × V)} {fd : FuncData} {ps : List Str} {sp : Sp} {dvs : List V} {ds : List Value} {pins : List (Addr × Obj)} {σ : St} {H : Hp} {s : Shared}
/-- a def of the text runs within a built-in -/
theorem run_in {A' : Around} {Q : VK} {E : XK} {us : List Value} {vs : List V} (F : FnOk X.prog X.w X.K X.mg X.base CX k f fd ps sp) (hr : Room k A') (hfr : A'.frames = X.A.frames) (hb : Binds X.K fd ps ds) (hd : Vals dvs ds)
    (hx : PassesAt CX X σ E) (I : Inv X pins σ H s) (r : Vals vs us) (h : sp (vs ++ dvs) H Q E) : wpAny (model X.prog X.w) A' (call (.ref f) us) (EP X pins σ Q) X.xe s := by
  have e0 := I.env0
  have e1 : Env0 X.prog X.w X.K X.mg X.base A' X.stack s H := ⟨hfr.trans e0.frames, e0.mod, e0.bs, e0.bsz, e0.funs, e0.frf, e0.hok, e0.bare⟩
  have rr : Vals (vs ++ dvs) (us ++ ds) := r.append hd
  refine wpAny_call (codeAny_mono (F.run A' X.stack s H ⟨us, []⟩ _ _ Q E hr e1 (hb s us I.kIn (rr.length.symm.trans (F.len _ _ _ _ h))) rr h) ?_)
  intro res s' hq
  match res, hq with
  | .error e, hq => exact hx pins H s e s' I hq
  | .ok (.ret u), hq => exact I.after hq
  | .ok .next, hq => exact hq.elim
  | .ok .brk, hq => exact hq.elim
  | .ok .cont, hq => exact hq.elim
/-- an instance as the library's rules see it -/
theorem Inv.instAt (I : Inv X pins σ H s) (ea : H a = some (.ins C dx fs)) : ∃ od, PySem.W.InstAt s.heap a (PySem.W.instObj C dx) C (some od) := by
  obtain ⟨mA, O, _⟩ := ins_get I.hok ea
  obtain ⟨od, J, _⟩ := O.look
  exact ⟨od, J⟩
/-- str(o), o's class with a __str__ of the program -/
def rStrO (C : Addr) (sp : Sp) (E : St → XK) (σ : St) : List V → Hp → VK → Prop := fun xs H Q => ∃ a dx fs, xs = [.ref a] ∧ H a = some (.ins C dx fs) ∧ sp [.ref a] H (fun v H' => ∃ z, v = .str z ∧ Q (.str z) H') (E σ)
def tStrO (C : Addr) (sp : Sp) (E : St → XK) (t : TA) : TE := fun σ H Q => t σ H fun vs H1 => rStrO C sp E σ vs H1 Q
theorem pe_strO {E : St → XK} {p pos : Pos} {e : Expr} {es : List Expr} {t : TA} (m : Meth X.K C "__str__" f) (F : FnOk X.prog X.w X.K X.mg X.base CX k f fd ps sp) (hr : Room (k + 2) X.A) (hb : Binds X.K fd ps []) (hx : ∀ σ, PassesAt CX X σ (E σ))
    (hg : Gl X "str") (hm : X.mg "str" = none) (ha : PA X (e :: es) t)
    (he : starEach (e :: es) X.env = (false, eval e X.env) :: starEach es X.env := by rfl) (hpl : (backTo pos (starEach es X.env)).any (·.1) = false := by rfl) : PE X (.Call (.Name "str" p) (e :: es) [] pos) (tStrO C sp E t) := by
  constructor
  intro pins s σ H Q I h
  refine wpAny_Call_Name_kw (ld_blt I hg hm (by decide +kernel : bootBuiltins "str" = some (.type "str")) ?_ (by decide) (by decide))
  refine PyProof.Rows.callWith_type1 (thn (ha.run pos pins s σ H _ I h) ?_) he hpl
  rintro us s1 ⟨vs, H1, I1, r1, a, dx, fs, rfl, ea, q⟩
  cases r1 with
  | cons ra rn =>
    cases rn
    cases ra
    obtain ⟨od, J⟩ := I1.instAt ea
    refine PySem.W.kso_call (hr.in1.in1.units0) I1.kIn J m.at_ m.fn (thn (run_in (vs := [.ref a]) (dvs := []) (ds := []) F hr.in1.in1 rfl hb .nil (hx σ) I1 (.cons rfl .nil) (by simpa using q)) ?_)
    rintro v s2 ⟨x, H2, I2, rx, z, rfl, q2⟩
    obtain ⟨t, rfl⟩ := rx
    exact ⟨.str z, H2, I2, ⟨t, rfl⟩, q2⟩
end
end L2

/-! What the head tells of the written part: a Bool of facts, and the function objects by their places. -/
namespace Rz
open PySem PySem.Spec PyProof.Rows L2 He
abbrev Fg := PySem.W.Frag
/-! ### looking into K -/
def funOf (K : Fg) (f : Addr) : Option FuncData := match K.lookup f with
  | some o => (match o.data with
    | .func fd => some fd
    | _ => none)
  | none => none
theorem funOf_ok {K : Fg} {f : Addr} {fd : FuncData} (h : funOf K f = some fd) : ∃ oc od osl, K.lookup f = some ⟨oc, od, .func fd, osl⟩ := by
  unfold funOf at h
  cases q : K.lookup f with
  | none => rw [q] at h; cases h
  | some o =>
    obtain ⟨oc, od, dt, osl⟩ := o
    rw [q] at h
    cases dt with
    | func fd' =>
      have e : fd' = fd := Option.some.inj h
      subst e
      exact ⟨oc, od, osl, rfl⟩
    | _ => cases h
theorem funOf_eq {K : Fg} {f : Addr} {fd : FuncData} {oc od osl} (h : K.lookup f = some ⟨oc, od, .func fd, osl⟩) : funOf K f = some fd := by
  unfold funOf
  rw [h]
def fldsOf (K : Fg) (a : Addr) : Option (Array Value) := match K.lookup a with
  | some o => (match o.data with
    | .fields vs => some vs
    | _ => none)
  | none => none
theorem fldsOf_ok {K : Fg} {a : Addr} {vs : Array Value} (h : fldsOf K a = some vs) : ∃ oc od osl, K.lookup a = some ⟨oc, od, .fields vs, osl⟩ := by
  unfold fldsOf at h
  cases q : K.lookup a with
  | none => rw [q] at h; cases h
  | some o =>
    obtain ⟨oc, od, dt, osl⟩ := o
    rw [q] at h
    cases dt with
    | fields v =>
      have e : v = vs := Option.some.inj h
      subst e
      exact ⟨oc, od, osl, rfl⟩
    | _ => cases h
def cellOf (K : Fg) (a : Addr) : Option (Option Value) := match K.lookup a with
  | some o => (match o.data with
    | .cell v => some v
    | _ => none)
  | none => none
theorem cellOf_ok {K : Fg} {a : Addr} {v : Option Value} (h : cellOf K a = some v) : ∃ oc od osl, K.lookup a = some ⟨oc, od, .cell v, osl⟩ := by
  unfold cellOf at h
  cases q : K.lookup a with
  | none => rw [q] at h; cases h
  | some o =>
    obtain ⟨oc, od, dt, osl⟩ := o
    rw [q] at h
    cases dt with
    | cell u =>
      have e : u = v := Option.some.inj h
      subst e
      exact ⟨oc, od, osl, rfl⟩
    | _ => cases h
def strOf? : Value → Option Str
  | .str x _ => some x
  | _ => none
theorem strOf?_ok {v : Value} {x : Str} (h : strOf? v = some x) : ∃ t, v = .str x t := by
  cases v with
  | str y t =>
    have e : y = x := Option.some.inj h
    exact ⟨t, by rw [e]⟩
  | _ => cases h
def refOf? : Value → Option Addr
  | .ref a => some a
  | _ => none
theorem refOf?_ok {v : Value} {a : Addr} (h : refOf? v = some a) : v = .ref a := by
  cases v with
  | ref b => exact congrArg Value.ref (Option.some.inj h)
  | _ => cases h
def clsOf (K : Fg) (a : Addr) : Option (ClassData × Array (Option Value)) := match K.lookup a with
  | some o => (match o.data with
    | .cls cd => (match decide (o.cls = .type "type") with
      | true => some (cd, o.slots)
      | false => none)
    | _ => none)
  | none => none
theorem clsOf_ok {K : Fg} {a : Addr} {cd : ClassData} {sl : Array (Option Value)} (h : clsOf K a = some (cd, sl)) : ∃ od, K.lookup a = some ⟨.type "type", od, .cls cd, sl⟩ := by
  unfold clsOf at h
  cases q : K.lookup a with
  | none => rw [q] at h; cases h
  | some o =>
    obtain ⟨oc, od, dt, osl⟩ := o
    rw [q] at h
    cases dt with
    | cls c =>
      cases e : decide (oc = Value.type "type") with
      | false =>
        simp only [e] at h
        cases h
      | true =>
        simp only [e] at h
        have e1 := Option.some.inj h
        have e2 : c = cd := congrArg Prod.fst e1
        have e3 : osl = sl := congrArg Prod.snd e1
        have e4 : oc = .type "type" := of_decide_eq_true e
        subst e2 e3 e4
        exact ⟨od, rfl⟩
    | _ => cases h
/-! ### where a function stands -/
def pG (x : Str) : Fg → Addr := fun K => ga K x
def pM (C m : Str) : Fg → Addr := fun K => ma K (ga K C) m
/-- the record that a class has at a name (a property's, a classmethod's) -/
def recAt (C m : Str) : Fg → Addr := fun K => ma K (ga K C) m
def firstOf (n : String) (p : Addr) (K : Fg) : Addr := match PySem.W.recIn K p n with
  | some (.ref g :: _) => g
  | _ => 0
def pP (C m : Str) : Fg → Addr := fun K => firstOf "property" (recAt C m K) K
def pC (C m : Str) : Fg → Addr := fun K => firstOf "classmethod" (recAt C m K) K
/-! ### a function's datum -/
structure Dq where
  at_ : Fg → Addr
  name : Str
  qual : Str
  params : Arguments
  body : List Stmt
  scope : Scope
  clo : List Str := []
  dfl : List Dv := []
  kwd : List (Str × Dv) := []
abbrev FnQ : Type := Option (Str × Str × Arguments × FuncBody × Scope × Addr × List Str × Addr)
def fnQ (K : Fg) (f : Addr) : FnQ := (funOf K f).map fun fd => (fd.name, fd.qualname, fd.params, fd.body, fd.scope, fd.globals, fd.closure.map (·.1), fd.builtins)
def Dq.val (d : Dq) : FnQ := some (d.name, d.qual, d.params, .stmts d.body, d.scope, mainGlobals, d.clo, builtinsNs)
def Dq.dvs (K : Fg) (d : Dq) : List V := d.dfl.map (Dv.v K)
def Dq.kws (K : Fg) (d : Dq) : List (Str × V) := d.kwd.map fun q => (q.1, q.2.v K)
def Dq.ok (K : Fg) (d : Dq) : Bool := PySem.W.keepIn K (.ref (d.at_ K)) && (match funOf K (d.at_ K) with
  | some fd => PySem.W.codeIn K fd.code d.qual && (dflB K fd.defaults (d.dvs K) && kwdB K fd.kwdefaults (d.kws K))
  | none => false)
theorem Dq.parts {K : Fg} {d : Dq} (e : fnQ K (d.at_ K) = d.val) (c : d.ok K = true) : ∃ oc od osl cl dV kV doc pm an cdv ct, K.lookup (d.at_ K) = some ⟨oc, od, .func (PySem.W.fnX d.name d.qual d.params d.body d.scope cl dV kV doc pm an cdv ct), osl⟩ ∧ cl.map (·.1) = d.clo ∧
    PySem.W.keepIn K (.ref (d.at_ K)) = true ∧ PySem.W.codeIn K cdv d.qual = true ∧ DflV K dV (d.dvs K) ∧ KwdV K kV (d.kws K) := by
  unfold Dq.ok at c
  unfold fnQ at e
  obtain ⟨kp, c2⟩ := ba c
  cases q : funOf K (d.at_ K) with
  | none => rw [q] at c2; cases c2
  | some fd =>
    rw [q] at c2 e
    obtain ⟨oc, od, osl, lk⟩ := funOf_ok q
    obtain ⟨n1, n2, n3, n4, n5, n6, n7, n8, n9, n10, n11, n12, n13, n14, n15⟩ := fd
    simp only [Dq.val, Option.map_some, Option.some.injEq, Prod.mk.injEq] at e
    obtain ⟨h1, h2, h3, h4, h5, h6, h7, h8⟩ := e
    subst h1 h2 h3 h4 h5 h6 h8
    obtain ⟨k1, k2⟩ := ba c2
    obtain ⟨k3, k4⟩ := ba k2
    exact ⟨oc, od, osl, n7, n8, n9, n10, n11, n12, n13, n14, lk, h7, kp, k1, dflB_ok k3, kwdB_ok k4⟩
theorem Dq.funD {K : Fg} {d : Dq} (e : fnQ K (d.at_ K) = d.val) (c : d.ok K = true) (hc : d.clo = []) : ∃ fd, FunD K d.name d.qual d.params d.body d.scope (d.dvs K) (d.kws K) (d.at_ K) fd := by
  obtain ⟨oc, od, osl, cl, dV, kV, doc, pm, an, cdv, ct, h1, h2, h3, h4, h5, h6⟩ := Dq.parts e c
  rw [hc] at h2
  have : cl = [] := List.map_eq_nil_iff.mp h2
  subst this
  exact ⟨_, ⟨oc, od, dV, kV, doc, pm, an, cdv, ct, osl, rfl, h1, h4, h5, h6⟩, h3⟩
/-! ### facts of classes -/
def gloB (x : Str) : Fg → Bool := fun K => (Fa.glo x).ok K
def firstB (n : String) (p : Addr) (K : Fg) : Bool := decide ((PySem.W.recIn K p n).bind List.head? = some (.ref (firstOf n p K)))
theorem firstB_ok {n : String} {p : Addr} {K : Fg} (h : firstB n p K = true) : ∃ rest, PySem.W.recIn K p n = some (.ref (firstOf n p K) :: rest) := by
  have e := of_decide_eq_true h
  cases q : PySem.W.recIn K p n with
  | none => rw [q] at e; cases e
  | some l =>
    rw [q] at e
    cases l with
    | nil => cases e
    | cons v r =>
      have ev : v = .ref (firstOf n p K) := Option.some.inj e
      exact ⟨r, by rw [ev]⟩
def propB (C m : Str) : Fg → Bool := fun K => eqO (PySem.W.findIn K (.ref (ga K C)) m) (some (some (.ref (recAt C m K)))) && (eqO (PySem.W.specialIn K (.ref (recAt C m K)) "__get__") (some (some (.builtin "property.__get__"))) &&
  (decide (PySem.W.takesIn K (.ref (recAt C m K)) = some true) && firstB "property" (recAt C m K) K))
theorem propB_ok {C m : Str} {K : Fg} (h : propB C m K = true) : PropOf K (ga K C) m (recAt C m K) (pP C m K) := by
  obtain ⟨h1, h⟩ := ba h
  obtain ⟨h2, h⟩ := ba h
  obtain ⟨h3, h4⟩ := ba h
  exact ⟨eqO_ok h1, eqO_ok h2, of_decide_eq_true h3, firstB_ok h4⟩
/-- an exception class of the program -/
def mroVE (C : Addr) (l : List Value) : Bool := decide (l.head? = some (.ref C)) && PySem.HandSPX.refsVE l.tail
def slotsVE (sl : Array (Option Value)) : Bool := decide (sl.size = 6) && decide (sl[4]? = some (some (.builtin "ValueError.__new__")))
def clsVE (K : Fg) (C : Addr) : Bool := match clsOf K C with
  | some (cd, sl) => mroVE C cd.mro && (cd.hasDict && (!cd.hasDel && slotsVE sl))
  | none => false
theorem clsVE_ok {K : Fg} {C : Addr} (h : clsVE K C = true) : ∃ nm q N bs bm sn sub ab col dd k0 k1 k2 k3 k5, K.lookup C = some (excClassObj nm q C N bs bm true sn sub ab col dd k0 k1 k2 k3 k5 "ValueError.__new__") ∧ PySem.HandSPX.refsVE bm = true := by
  unfold clsVE at h
  cases q : clsOf K C with
  | none => rw [q] at h; cases h
  | some r =>
    obtain ⟨cd, sl⟩ := r
    rw [q] at h
    obtain ⟨od, lk⟩ := clsOf_ok q
    obtain ⟨nm, bs, mro, N, qn, hd, sn, sub, ab, col, del⟩ := cd
    obtain ⟨h2, h⟩ := ba (show (mroVE C mro && (hd && (!del && slotsVE sl))) = true from h)
    obtain ⟨h3, h⟩ := ba h
    obtain ⟨h4, h5⟩ := ba h
    have e4 : del = false := by simpa using h4
    subst h3 e4
    obtain ⟨h6, h7⟩ := ba h2
    obtain ⟨h8, h9⟩ := ba h5
    cases mro with
    | nil => cases of_decide_eq_true h6
    | cons v bm =>
      have ev : v = .ref C := Option.some.inj (of_decide_eq_true h6)
      subst ev
      obtain ⟨l⟩ := sl
      have z : l.length = 6 := of_decide_eq_true h8
      have z4 : l[4]? = some (some (.builtin "ValueError.__new__")) := by simpa using of_decide_eq_true h9
      obtain ⟨k0, l, rfl⟩ := List.exists_cons_of_length_eq_add_one z
      obtain ⟨k1, l, rfl⟩ := List.exists_cons_of_length_eq_add_one (Nat.succ.inj z)
      obtain ⟨k2, l, rfl⟩ := List.exists_cons_of_length_eq_add_one (Nat.succ.inj (Nat.succ.inj z))
      obtain ⟨k3, l, rfl⟩ := List.exists_cons_of_length_eq_add_one (Nat.succ.inj (Nat.succ.inj (Nat.succ.inj z)))
      obtain ⟨k4, l, rfl⟩ := List.exists_cons_of_length_eq_add_one (Nat.succ.inj (Nat.succ.inj (Nat.succ.inj (Nat.succ.inj z))))
      obtain ⟨k5, l, rfl⟩ := List.exists_cons_of_length_eq_add_one (Nat.succ.inj (Nat.succ.inj (Nat.succ.inj (Nat.succ.inj (Nat.succ.inj z)))))
      have e0 : l = [] := List.eq_nil_of_length_eq_zero (Nat.succ.inj (Nat.succ.inj (Nat.succ.inj (Nat.succ.inj (Nat.succ.inj (Nat.succ.inj z))))))
      have e4 : k4 = some (.builtin "ValueError.__new__") := by simpa using z4
      subst e0 e4
      exact ⟨nm, qn, N, bs, bm, sn, sub, ab, col, od, k0, k1, k2, k3, k5, lk, h7⟩
def excB (x : Str) : Fg → Bool := fun K => clsVE K (ga K x) && (eqO (PySem.W.findIn K (.ref (ga K x)) "__setattr__") (some (some (.builtin "object.__setattr__"))) && (PySem.W.keepIn K (.ref (ga K x)) && (decide (PySem.W.subIn K (.ref (ga K x)) (.type "BaseException") = some true) &&
  (decide (PySem.W.subIn K (.ref (ga K x)) (.type "ValueError") = some true) && (decide (PySem.W.typeIn K (.ref (ga K x)) = some (.type "type")) && (eqO (PySem.W.nsIn K cStatics "thirdparty.any") (some none) && xfB K (ga K x)))))))
theorem excB_ok {x : Str} {K : Fg} (h : excB x K = true) : ExC K (ga K x) ∧ XfC K (ga K x) := by
  obtain ⟨h1, h⟩ := ba h
  obtain ⟨h2, h⟩ := ba h
  obtain ⟨h3, h⟩ := ba h
  obtain ⟨h4, h⟩ := ba h
  obtain ⟨h5, h⟩ := ba h
  obtain ⟨h6, h⟩ := ba h
  obtain ⟨h7, h8⟩ := ba h
  exact ⟨⟨clsVE_ok h1, eqO_ok h2, h3, of_decide_eq_true h4, of_decide_eq_true h5, of_decide_eq_true h6, eqO_ok h7⟩, xfB_ok h8⟩
/-- its __init__: the cell of __class__, the code object -/
def ccOf (f : Addr) (K : Fg) : Addr := match funOf K f with
  | some fd => (match fd.closure.head? with
    | some q => q.2
    | none => 0)
  | none => 0
def cdOf (f : Addr) (K : Fg) : Addr := match funOf K f with
  | some fd => (refOf? fd.code).getD 0
  | none => 0
def fileB (P : Program) (c : Addr) (K : Fg) : Bool := match (fldsOf K c).bind fun vs => vs[2]?.bind strOf? with
  | some file => (P.main.file : Str) == file
  | none => false
theorem fileB_ok {P : Program} {c : Addr} {K : Fg} (h : fileB P c K = true) : ∃ (ccl : Value) (cdd : Option Addr) (vs : Array Value) (ccs : Array (Option Value)) (file : Str) (tf : Tok),
    K.lookup c = some ⟨ccl, cdd, .fields vs, ccs⟩ ∧ vs[2]? = some (.str file tf) ∧ ((P.main.file : Str) == file) = true := by
  unfold fileB at h
  cases q : fldsOf K c with
  | none => rw [q] at h; cases h
  | some vs =>
    rw [q] at h
    obtain ⟨oc, od, osl, lk⟩ := fldsOf_ok q
    cases q2 : vs[2]? with
    | none =>
      simp only [Option.bind_some, q2, Option.bind_none] at h
      cases h
    | some v =>
      simp only [Option.bind_some, q2] at h
      cases q3 : strOf? v with
      | none => rw [q3] at h; cases h
      | some file =>
        rw [q3] at h
        obtain ⟨t, rfl⟩ := strOf?_ok q3
        exact ⟨oc, od, vs, osl, file, t, lk, q2, h⟩
def iniB (P : Program) (x : Str) : Fg → Bool := fun K => eqO (PySem.W.findIn K (.ref (ga K x)) "__init__") (some (some (.ref (pM x "__init__" K)))) && (decide (PySem.W.typeIn K (.ref (pM x "__init__" K)) = some (.type "function")) &&
  (fileB P (cdOf (pM x "__init__" K) K) K && (decide (cellOf K (ccOf (pM x "__init__" K) K) = some (some (.ref (ga K x)))) && eqO (PySem.W.ks_superIn K (ga K x) (ga K x) "__init__") (some (some (.builtin "ValueError.__init__"))))))
theorem iniB_ok {P : Program} {x : Str} {K : Fg} {d : Dq} (h : iniB P x K = true) (ht : (P.main.scope.names.lookup ("super" : Str)).isSome = false) (hd : d.at_ = pM x "__init__") (e : fnQ K (d.at_ K) = d.val) (c : d.ok K = true) (hc : d.clo = [("__class__" : Str)]) (hdf : d.dfl = []) :
    ExF P K (ga K x) (pM x "__init__" K) (ccOf (pM x "__init__" K) K) (cdOf (pM x "__init__" K) K) d.params d.body d.scope := by
  obtain ⟨h1, h⟩ := ba h
  obtain ⟨h2, h⟩ := ba h
  obtain ⟨h3, h⟩ := ba h
  obtain ⟨h4, h5⟩ := ba h
  obtain ⟨oc, od, osl, cl, dV, kV, doc, pm, an, cdv, ct, g1, g2, g3, g4, g5, g6⟩ := Dq.parts e c
  rw [hc] at g2
  rw [hd] at g1
  obtain ⟨cc, rfl⟩ : ∃ cc, cl = [(("__class__" : Str), cc)] := by
    cases cl with
    | nil => cases g2
    | cons p r =>
      obtain ⟨n, cc⟩ := p
      cases r with
      | nil =>
        have : n = "__class__" := by simpa using g2
        exact ⟨cc, by rw [this]⟩
      | cons _ _ => simp at g2
  have hdv : dV = .none := by
    rcases g5 with ⟨_, z⟩ | ⟨z, _⟩
    · exact z
    · exact absurd (by unfold Dq.dvs; rw [hdf]; rfl) z
  subst hdv
  obtain ⟨cda, rfl⟩ : ∃ cda, cdv = .ref cda := by
    cases cdv with
    | ref a => exact ⟨a, rfl⟩
    | _ => cases g4
  have ecc : ccOf (pM x "__init__" K) K = cc := by
    unfold ccOf
    rw [funOf_eq g1]
    rfl
  have ecd : cdOf (pM x "__init__" K) K = cda := by
    unfold cdOf
    rw [funOf_eq g1]
    rfl
  rw [ecc, ecd]
  rw [ecc] at h4
  rw [ecd] at h3
  refine ⟨eqO_ok h1, of_decide_eq_true h2, ⟨oc, od, d.name, d.qual, kV, doc, pm, ct, an, osl, g1, g4⟩, fileB_ok h3, ?_, eqO_ok h5, ht⟩
  obtain ⟨a, b, c', q⟩ := cellOf_ok (of_decide_eq_true h4)
  exact ⟨a, b, c', q⟩
/-! ### the Hook -/
def growR (g : Addr → Option Obj) (as : List Addr) : List Addr := growD g as
def asR (g : Addr → Option Obj) : Nat → List Addr
  | 0 => [mainGlobals, cStatics]
  | n + 1 => growR g (asR g n)
abbrev AlR : Type := Bool × List FnQ
def obsR (fa : List (Fg → Bool)) (fn : List Dq) (K : Fg) : AlR := ((fa.all fun f => f K) && fn.all fun d => d.ok K, fn.map fun d => fnQ K (d.at_ K))
def valR (fn : List Dq) : AlR := (true, fn.map Dq.val)
def SaysR (fa : List (Fg → Bool)) (fn : List Dq) (K : Fg) : Prop := obsR fa fn K = valR fn
def obsRG (n : Nat) (fa : List (Fg → Bool)) (fn : List Dq) (g : Addr → Option Obj) : AlR := obsR fa fn (frG g (asR g n))
def hookR (n : Nat) (fa : List (Fg → Bool)) (fn : List Dq) : PySem.W.Hook where
  α := AlR
  obs := fun s => obsRG n fa fn s.heap.get?
  val := fun _ => valR fn
  says := fun _ h => ∃ K : Fg, K.In h ∧ SaysR fa fn K
  of := fun _ _ e => ⟨_, frG_in, e⟩
  keeps := fun _ _ _ ⟨K, hK, c⟩ k => ⟨K, PySem.W.Frag.In.keeps hK k, c⟩
theorem obsRG_eq {n : Nat} {fa : List (Fg → Bool)} {fn : List Dq} {g : Addr → Option Obj} {s : Shared} (h : ∀ a, g a = s.heap.get? a) : obsRG n fa fn g = (hookR n fa fn).obs s := by
  have e : g = s.heap.get? := funext h
  rw [e] <;> rfl
section
variable {fa : List (Fg → Bool)} {fn : List Dq} {K : Fg}
theorem SaysR.fact (c : SaysR fa fn K) (i : Nat) {f : Fg → Bool} (h : fa[i]? = some f := by rfl) : f K = true := by
  have c1 := (ba (show ((fa.all fun f => f K) && fn.all fun d => d.ok K) = true from congrArg Prod.fst c)).1
  exact List.all_eq_true.mp c1 f (List.mem_of_getElem? h)
theorem SaysR.def_ (c : SaysR fa fn K) (i : Nat) {d : Dq} (h : fn[i]? = some d := by rfl) : fnQ K (d.at_ K) = d.val ∧ d.ok K = true := by
  have c2 := (ba (show ((fa.all fun f => f K) && fn.all fun d => d.ok K) = true from congrArg Prod.fst c)).2
  have e : fn.map (fun d => fnQ K (d.at_ K)) = fn.map Dq.val := congrArg Prod.snd c
  have e2 : (fn.map fun d => fnQ K (d.at_ K))[i]? = (fn.map Dq.val)[i]? := by rw [e]
  rw [List.getElem?_map, List.getElem?_map, h] at e2
  exact ⟨Option.some.inj e2, List.all_eq_true.mp c2 d (List.mem_of_getElem? h)⟩
theorem SaysR.fun_ (c : SaysR fa fn K) (i : Nat) {d : Dq} (h : fn[i]? = some d := by rfl) (hc : d.clo = [] := by rfl) : ∃ fd, FunD K d.name d.qual d.params d.body d.scope (d.dvs K) (d.kws K) (d.at_ K) fd :=
  let ⟨e, k⟩ := c.def_ i h; Dq.funD e k hc
end
end Rz

/-! Names for readings. -/
namespace L2
open PySem PySem.Spec PyProof.Rows
def tRaise (mk : St → Hp → XK → Prop) (W : WX) : TS := fun _ σ H => mk σ H fun cls d H' => W cls d σ H'
def tTry (K : Frg) (W : WX) (tb : WX → TS) (l : List Clause) : TS := fun D σ H => tb (wMix K W D l) D σ H
theorem ps_tryM {X : Cx} {body : List Stmt} {h₀ : ExceptHandler} {hds : List ExceptHandler} {l : List Clause} {pos : Pos} {tb : WX → TS} {Wout : WX} (hs : X.stack = X.env :: X.outer) (hf : X.env.frame = some X.env.locals) (hN : X.N.Nodup) (tk : Takes X Wout)
    (hb : ∀ (W : WX) (pn : List (Addr × Obj)) (xe : Value → Shared → Prop), Takes (X.tr pn xe) W → PassesOwn (model X.prog X.w) X.A X.env xe → PSs (X.tr pn xe) body (tb W)) (hh : HdsMix X (h₀ :: hds) l) :
    PS X (.Try body (h₀ :: hds) [] [] pos) (tTry X.K Wout tb l) := ps_try_mix hs hf hN tk hb hh
def tJoined (ts : List TE) : TE := fun σ H Q => tJs ts Str.empty σ H fun out H1 => Q (.str out) H1
def tTruth (K : Frg) (ta : TE) : TT := fun σ H Q => ta σ H fun x H' => ∃ k, TruV K x H' k ∧ Q k H'
abbrev rNegA : V → Hp → VK → Prop := rU fun i => .int (-i)
end L2

/-! How a reading goes on, one lemma a construct. -/
namespace L2
open PySem PySem.Spec PyProof.Rows
section
variable {K : Frg} {σ : St} {H : Hp} {Q : VK} {D : Ends} {ta tb tc : TE} {t u : TS} {tt tt' : TT} {g : TG} {i : Nat} {v : V} {tl tr : TA} {W : WX} {E : XK} {B : Bool → Hp → Prop} {QL : List V → Hp → Prop}
theorem rd_seq (h : t { D with nx := u D } σ H) : tSeq t u D σ H := h
theorem rd_next (h : D.nx σ H) : tNext D σ H := h
theorem rd_asg (h : ta σ H fun x H1 => g x σ H1 D.nx) : tAsg ta g D σ H := h
theorem rd_name {R : St → Hp → Prop} (h : R (σ.set i (some v)) H) : gName i v σ H R := h
theorem rd_drop (h : ta σ H fun _ H1 => D.nx σ H1) : tDrop ta D σ H := h
theorem rd_ret (h : ta σ H D.rt) : tRet ta D σ H := h
theorem rd_retN (h : D.rt .non H) : tRetN D σ H := h
theorem rd_if (h : tt σ H fun b H1 => (b = true → t D σ H1) ∧ (b = false → u D σ H1)) (hm : ∀ {P P' : Bool → Hp → Prop}, (∀ b H, P b H → P' b H) → tt σ H P → tt σ H P') : tIfS tt t u D σ H :=
  hm (fun b H1 ⟨h1, h2⟩ => by cases b; exact h2 rfl; exact h1 rfl) h
theorem rd_ifS (h : tt σ H fun b H1 => if b = true then t D σ H1 else u D σ H1) : tIfS tt t u D σ H := h
theorem rd_var (e : σ[i]? = some (some v)) (h : Q v H) : tVar i σ H Q := ⟨v, e, h⟩
theorem rd_c (h : Q v H) : tC v σ H Q := h
theorem rd_op {r : R2} (h : ta σ H fun x H1 => tb σ H1 fun y H2 => r x y H2 Q) : tOp r ta tb σ H Q := h
theorem rd_un {r : V → Hp → VK → Prop} (h : ta σ H fun x H1 => r x H1 Q) : tUn r ta σ H Q := h
theorem rd_neg {j : Int} (h : Q (.int (-j)) H) : rNegA (.int j) H Q := ⟨j, rfl, h⟩
theorem rd_cb {r : RC} (h : tl σ H fun vs H1 => r vs H1 Q) : tCB r tl σ H Q := h
theorem rd_nil (h : QL [] H) : tNil σ H QL := h
theorem rd_cons (h : ta σ H fun x H1 => tr σ H1 fun xs H2 => QL (x :: xs) H2) : tCons ta tr σ H QL := h
theorem rd_test (h : ta σ H fun x H1 => ∃ k, x = .bl k ∧ B k H1) : tTest ta σ H B := h
theorem rd_tb (h : ta σ H fun x H1 => ∃ k, x = .bl k ∧ B k H1) : tB ta σ H B := h
theorem rd_bl {k : Bool} (h : B k H) : ∃ k', V.bl k = .bl k' ∧ B k' H := ⟨k, rfl, h⟩
theorem rd_and (h : tt σ H fun c H1 => if c = true then tt' σ H1 B else B false H1) : tAnd tt tt' σ H B := h
theorem rd_or (h : tt σ H fun c H1 => if c = true then B true H1 else tt' σ H1 B) : tOr tt tt' σ H B := h
theorem rd_not (h : tt σ H fun c H1 => B (!c) H1) : tNot tt σ H B := h
theorem rd_andV (h : ta σ H fun x H1 => ∃ c, x = .bl c ∧ if c = true then tb σ H1 Q else Q (.bl false) H1) : tAndV ta tb σ H Q := h
theorem rd_orV (h : ta σ H fun x H1 => ∃ c, x = .bl c ∧ if c = true then Q (.bl true) H1 else tb σ H1 Q) : tOrV ta tb σ H Q := h
theorem rd_notV (h : ta σ H fun x H1 => ∃ c, x = .bl c ∧ Q (.bl (!c)) H1) : tNotV ta σ H Q := h
theorem rd_ifE (h : tt σ H fun c H1 => if c = true then ta σ H1 Q else tb σ H1 Q) : tIf tt ta tb σ H Q := h
theorem rd_tup (h : tl σ H fun xs H1 => xs.length ≤ sizeLine ∧ ∀ p, H1 p = none → Q (.ref p) (upd H1 p (.tup xs))) : tTup tl σ H Q := h
theorem rd_lst (h : tl σ H fun xs H1 => xs.length ≤ sizeLine ∧ ∀ p, H1 p = none → Q (.ref p) (upd H1 p (.lst xs))) : tLst tl σ H Q := h
theorem rd_call {sp : Sp} {dvs : List V} {EE : St → XK} (h : tl σ H fun vs H1 => sp (vs ++ dvs) H1 Q (EE σ)) : tCallSD sp dvs EE tl σ H Q := h
theorem rd_joined {ts : List TE} (h : tJs ts Str.empty σ H fun out H1 => Q (.str out) H1) : tJoined ts σ H Q := h
theorem rd_raise {mk : St → Hp → XK → Prop} (h : mk σ H fun cls d H' => W cls d σ H') : tRaise mk W D σ H := h
theorem rd_mkx {C : Addr} {f : Str} {R : XK} (h : tl σ H fun vs H1 => ∃ v, vs = [v] ∧ ∀ d, H1 d = none → R (.ref C) (some d) (upd H1 d (.xd [(f, v)]))) : tMkX C f tl σ H R := h
theorem rd_mkx0 {C : Addr} {R : XK} (h : R (.ref C) none H) : tMkX0 C σ H R := h
theorem rd_try {tbb : WX → TS} {l : List Clause} (h : tbb (wMix K W D l) D σ H) : tTry K W tbb l D σ H := h
theorem rd_sl {r : SlV} {tlo thi : TO} (h : ta σ H fun x H1 => tlo σ H1 fun l H2 => thi σ H2 fun u H3 => r x l u H3 Q) : tSl r ta tlo thi σ H Q := h
theorem rd_nopart {R : Option Int → Hp → Prop} (h : R none H) : tNoPart σ H R := h
theorem rd_part {R : Option Int → Hp → Prop} (h : ta σ H fun x H1 => ∃ i, x = .int i ∧ R (some i) H1) : tPart ta σ H R := h
theorem rd_ofint {j : Int} {R : Option Int → Hp → Prop} (h : R (some j) H) : ∃ i, V.int j = .int i ∧ R (some i) H := ⟨j, rfl, h⟩
theorem rd_chain {r r' : R2} (h : ta σ H fun x H1 => tb σ H1 fun y H2 => r x y H2 fun z H3 => ∃ k, z = .bl k ∧ if k = true then tc σ H3 fun w H4 => r' y w H4 Q else Q (.bl false) H3) : tChain r r' ta tb tc σ H Q := h
/-- the ways of an if whose test is a decision -/
theorem rd_ite {c : Prop} [Decidable c] {A B : Prop} (h1 : c → A) (h2 : ¬ c → B) : if decide c = true then A else B := by
  by_cases h : c
  · rw [decide_eq_true h]; exact h1 h
  · rw [decide_eq_false h]; exact h2 h
theorem rd_iteN {c : Prop} [Decidable c] {A B : Prop} (h1 : ¬ c → A) (h2 : c → B) : if (!decide c) = true then A else B := by
  by_cases h : c
  · rw [decide_eq_true h]; exact h2 h
  · rw [decide_eq_false h]; exact h1 h
theorem rd_iteT {A B : Prop} (h : A) : if true = true then A else B := h
theorem rd_iteF {A B : Prop} (h : B) : if false = true then A else B := h
/-! ### loops -/
/-- for k in range(n) -/
theorem rd_forR {n : Int} {H1 : Hp} (Pv : Nat → St → Hp → Prop) (hn : -(2 ^ 62) ≤ n) (hn' : n < 2 ^ 62) (h0 : Pv 0 σ H1)
    (hs : ∀ (i : Nat) σ H, (i : Int) < n → Pv i σ H → g (.int i) σ H fun σ2 H2 => t { D with nx := Pv (i + 1), bk := D.nx, ct := Pv (i + 1) } σ2 H2) (hd : ∀ σ H, Pv n.toNat σ H → D.nx σ H) (h : tl σ H fun vs H2 => vs = [.int n] ∧ H2 = H1)
    (hm : ∀ {P P' : List V → Hp → Prop}, (∀ b H, P b H → P' b H) → tl σ H P → tl σ H P') : tFor (iRng1 tl) g t D σ H := by
  refine hm ?_ h
  rintro vs H2 ⟨rfl, rfl⟩
  refine ⟨n, rfl, hn, hn', for_range (lo := 0) Pv h0 (fun i σ H hi p => ?_) hd⟩
  have := hs i σ H (by omega) p
  rw [Int.zero_add]
  exact this
theorem rd_forR1 {n : Int} {R : (It → Hp → Prop)} {H1 : Hp} (hn : -(2 ^ 62) ≤ n) (hn' : n < 2 ^ 62) (h : R (Itr 0 n.toNat) H1) : ∃ j : Int, [V.int n] = [.int j] ∧ -(2 ^ 62) ≤ j ∧ j < 2 ^ 62 ∧ R (Itr 0 j.toNat) H1 := ⟨n, rfl, hn, hn', h⟩
theorem forR {n : Int} {D : Ends} {σ : St} {H : Hp} (Pv : Nat → St → Hp → Prop) (h0 : Pv 0 σ H)
    (hs : ∀ (i : Nat) σ H, (i : Int) < n → Pv i σ H → g (.int i) σ H fun σ2 H2 => t { D with nx := Pv (i + 1), bk := D.nx, ct := Pv (i + 1) } σ2 H2) (hd : ∀ σ H, Pv n.toNat σ H → D.nx σ H) :
    ∃ W : Nat → Nat → St → Hp → Prop, (∃ m, W 0 m σ H) ∧ ∀ i m σ H, W i m σ H →
      ((Itr 0 n.toNat).stop i H ∧ D.nx σ H) ∨ ((Itr 0 n.toNat).go i H ∧ ∃ N : St → Hp → Prop, (∀ σ' H', N σ' H' → ∃ m', m' < m ∧ W (i + 1) m' σ' H') ∧ ∀ x H', (Itr 0 n.toNat).yld i H x H' → g x σ H' fun σ2 H2 => t { D with nx := N, ct := N, bk := D.nx } σ2 H2) :=
  for_range (lo := 0) Pv h0 (fun i σ H hi p => by rw [Int.zero_add]; exact hs i σ H (by omega) p) hd
theorem walk_enumS {z : Str} : Walk (Ites z) z.cps.size (fun _ => True) (fun i H v H' => ∃ T c, v = .ref T ∧ H T = none ∧ z.cps[i]? = some c ∧ H' = upd H T (.tup [.int (i : Nat), .str ⟨#[c]⟩])) :=
  ⟨fun _ _ hi _ => hi, fun _ _ => rfl, fun _ _ _ _ _ _ y => y⟩
theorem rd_yes (h : B true H) : tYes σ H B := h
/-- a comprehension over range(n) -/
theorem lcR {n : Int} {te : TE} {vs : List Nat} {H1 : Hp} {L : Addr} {Qd : Hp → Prop} (Pv : Nat → Hp → Prop) (h0 : Pv 0 (upd H1 L (.lst [])))
    (hs : ∀ (i : Nat) H, (i : Int) < n → Pv i H → g (.int i) (wipe σ vs) H fun σ2 H2 => wipe σ2 vs = wipe σ vs ∧ tt σ2 H2 fun b H3 =>
      if b = true then te σ2 H3 fun y H4 => ∃ acc, H4 L = some (.lst acc) ∧ acc.length < sizeLine ∧ Pv (i + 1) (upd H4 L (.lst (acc ++ [y]))) else Pv (i + 1) H3) (hd : ∀ H, Pv n.toNat H → Qd H) :
    ∃ W : Nat → Nat → Hp → Prop, (∃ m, W 0 m (upd H1 L (.lst []))) ∧ ∀ i m H, W i m H →
      ((Itr 0 n.toNat).stop i H ∧ Qd H) ∨ ((Itr 0 n.toNat).go i H ∧ ∃ Nx : Hp → Prop, (∀ H', Nx H' → ∃ m', m' < m ∧ W (i + 1) m' H') ∧ ∀ x H', (Itr 0 n.toNat).yld i H x H' → g x (wipe σ vs) H' fun σ2 H2 => wipe σ2 vs = wipe σ vs ∧ tt σ2 H2 fun b H3 =>
        if b = true then te σ2 H3 fun y H4 => ∃ acc, H4 L = some (.lst acc) ∧ acc.length < sizeLine ∧ Nx (upd H4 L (.lst (acc ++ [y]))) else Nx H3) :=
  lc_range (lo := 0) Pv h0 (fun i H hi p => by rw [Int.zero_add]; exact hs i H (by omega) p) hd
end
end L2

/-! list(zip(text, list)). -/
namespace Rz
open PySem PySem.Spec PyProof.Rows
open PySem.W (kdx_alive)
section
variable {prog : Program} {w : World} {A : Around} {E : Value → Shared → Prop} {s : Shared} {z TI TO i1 i2 : Addr} {fp1 fp2 : List Addr} {n i : Nat} {P1 P2 : Nat → Value → Prop} {St1 St2 : Nat → Heap → Prop} {T : Addr} {f : Bool} {oT : Obj}
/-- the next pair, while the pair handed out before is still held by someone -/
theorem held_next {Q : Value → Shared → Prop} (S : ZipSep2 z TI TO i1 i2 fp1 fp2) (D1 : Draws prog w A i1 fp1 n P1 St1) (D2 : Draws prog w A i2 fp2 n P2 St2)
    (hz : IsZipHeld s.heap z TI TO T f) (hT : s.heap.get? T = some oT) (hTI : IsTupOf2 s.heap TI (.ref i1) (.ref i2)) (s1 : St1 i s.heap) (s2 : St2 i s.heap) (hi : i < n)
    (hQ : ∀ x y h' tk, P1 i x → P2 i y → IsZipHeld h' z TI TO T true → St1 (i + 1) h' → St2 (i + 1) h' → IsTupOf2 h' s.heap.objs.size x y → h'.objs.size = s.heap.objs.size + 1 →
      (∀ c o, c ≠ z → c ≠ i1 → c ≠ i2 → s.heap.get? c = some o → h'.get? c = some o) → Q (.ref s.heap.objs.size) { s with heap := h', toks := tk }) :
    wpAny (model prog w) A (Builtin.«zip.__next__» ⟨[.ref z], []⟩) (fun fin s' => ∃ v, fin = .done (.ret v) ∧ Q v s') E s := by
  obtain ⟨hp, g, d, tk0, os⟩ := s
  show wpAny (model prog w) A (field (.ref z) 2 >>= _) _ E _
  refine wpAny_bind (wpAny_field hz rfl (x := Value.bool false) rfl ?_)
  show wpAny (model prog w) A (field (.ref z) 3 >>= _) _ E _
  refine wpAny_bind (wpAny_field hz rfl (x := Value.ref TI) rfl ?_)
  refine wpAny_bind (wpAny_seqItems hTI rfl ?_)
  show wpAny (model prog w) A (Builtin.SmallTypes.ownedTupleIsFree (.ref z) >>= _) _ E _
  refine wpAny_bind (wpAny_tupleHeld_zip hz hT fun p0 hz0 q0 => ?_)
  replace q0 : Heap.SameBut z hp p0 := q0
  replace hz0 : IsZipHeld p0 z TI TO T true := hz0
  simp only [Bool.false_eq_true, if_false]
  refine wpAny_bind ?_
  rw [← Array.forIn_toList]
  simp only [List.forIn_cons, List.forIn_nil]
  refine wpAny_bind (wpAny_bind (wpAny_holding ?_))
  show wpAny (model prog w) A (Builtin.SmallTypes.nextOf (.ref i1) >>= _) _ E ⟨p0, g, d, tk0, os⟩
  refine wpAny_bind (D1.item i _ _ _ hi (D1.over s1 q0 S.zf1) fun x p1 t1 hx a1 q1 => wpAny_pure ?_)
  replace q1 : Heap.SameBut i1 p0 p1 := q1
  refine wpAny_pure ?_
  refine wpAny_bind (wpAny_bind (wpAny_holding ?_))
  show wpAny (model prog w) A (Builtin.SmallTypes.nextOf (.ref i2) >>= _) _ E ⟨p1, g, d, t1, os⟩
  refine wpAny_bind (D2.item i _ _ _ hi (D2.over (D2.over s2 q0 S.zf2) q1 S.sep1_2) fun y p2 t2 hy a2 q2 => wpAny_pure ?_)
  replace q2 : Heap.SameBut i2 p1 p2 := q2
  refine wpAny_pure (wpAny_pure ?_)
  show wpAny (model prog w) A (newTuple [x, y] >>= _) _ E ⟨p2, g, d, t2, os⟩
  refine wpAny_bind (wpAny_newTuple ?_)
  have size2 : p2.objs.size = hp.objs.size := by rw [q2.1, q1.1, q0.1]
  have z2 : IsZipHeld p2 z TI TO T true := q2.extBut _ _ S.zi2 (q1.extBut _ _ S.zi1 hz0)
  have b1 : St1 (i + 1) p2 := D1.over a1 q2 S.sep2_1
  have kp : ∀ c o, c ≠ z → c ≠ i1 → c ≠ i2 → hp.get? c = some o → p2.get? c = some o := fun c o c1 c2 c3 e => q2.extBut _ _ c3 (q1.extBut _ _ c2 (q0.extBut _ _ c1 e))
  refine wpAny_pure ⟨_, rfl, ?_⟩
  show Q (.ref p2.objs.size) _
  have new : IsTupOf2 (p2.push { cls := .type "tuple", data := .seq #[x, y] }) p2.objs.size x y := Heap.get?_push_size _ rfl
  have sz : (p2.push { cls := .type "tuple", data := .seq #[x, y] }).objs.size = p2.objs.size + 1 := Heap.size_push ..
  rw [size2] at new sz ⊢
  exact hQ x y _ t2 hx hy (Heap.get?_push_of_some _ z2) (D1.frame _ _ _ b1 fun b _ o e => Heap.get?_push_of_some _ e) (D2.frame _ _ _ a2 fun b _ o e => Heap.get?_push_of_some _ e) new sz fun c o c1 c2 c3 e => Heap.get?_push_of_some _ (kp c o c1 c2 c3 e)
theorem held_end {Q : Fin → Shared → Prop} (S : ZipSep2 z TI TO i1 i2 fp1 fp2) (D1 : Draws prog w A i1 fp1 n P1 St1)
    (hz : IsZipHeld s.heap z TI TO T f) (hT : s.heap.get? T = some oT) (hTI : IsTupOf2 s.heap TI (.ref i1) (.ref i2)) (s1 : St1 n s.heap)
    (hE : ∀ h' e, (∀ c o, c ≠ z → c ≠ i1 → s.heap.get? c = some o → h'.get? c = some o) → (∃ o, h'.get? e = some o ∧ o.cls = .type "StopIteration") → E (.ref e) { s with heap := h' }) :
    wpAny (model prog w) A (Builtin.«zip.__next__» ⟨[.ref z], []⟩) Q E s := by
  obtain ⟨hp, g, d, tk0, os⟩ := s
  show wpAny (model prog w) A (field (.ref z) 2 >>= _) _ E _
  refine wpAny_bind (wpAny_field hz rfl (x := Value.bool false) rfl ?_)
  show wpAny (model prog w) A (field (.ref z) 3 >>= _) _ E _
  refine wpAny_bind (wpAny_field hz rfl (x := Value.ref TI) rfl ?_)
  refine wpAny_bind (wpAny_seqItems hTI rfl ?_)
  show wpAny (model prog w) A (Builtin.SmallTypes.ownedTupleIsFree (.ref z) >>= _) _ E _
  refine wpAny_bind (wpAny_tupleHeld_zip hz hT fun p0 hz0 q0 => ?_)
  replace q0 : Heap.SameBut z hp p0 := q0
  simp only [Bool.false_eq_true, if_false]
  refine wpAny_bind ?_
  rw [← Array.forIn_toList]
  simp only [List.forIn_cons, List.forIn_nil]
  refine wpAny_bind (wpAny_bind (wpAny_holding ?_))
  show wpAny (model prog w) A (Builtin.SmallTypes.nextOf (.ref i1) >>= _) _ E ⟨p0, g, d, tk0, os⟩
  refine wpAny_bind (D1.done ⟨p0, g, d, tk0, os⟩ _ _ (D1.over s1 q0 S.zf1) fun p1 e q1 he => ?_)
  replace q1 : Heap.ExtBut i1 p0 p1 := q1
  exact hE p1 e (fun c o c1 c2 u => q1 _ _ c2 (q0.extBut _ _ c1 u)) he
end
/-- where the walk stands -/
def ZAt (St1 St2 : Nat → Heap → Prop) (z TI TO i1 i2 L : Addr) (i : Nat) (h : Heap) : Prop :=
  IsTupOf2 h TI (.ref i1) (.ref i2) ∧ St1 i h ∧ St2 i h ∧ ((i = 0 ∧ IsZip h z TI TO .none ∧ IsTupOf2 h TO .none .none) ∨ ∃ T f oT, IsZipHeld h z TI TO T f ∧ h.get? T = some oT ∧ T ≠ z ∧ T ≠ i1 ∧ T ≠ i2 ∧ T ≠ L)
/-- the pairs so far -/
structure ZTold (P1 P2 : Nat → Value → Prop) (lo : Addr) (h : Heap) (as : List Addr) : Prop where
  rise : as.Pairwise (· < ·)
  above : ∀ a ∈ as, lo < a
  two : ∀ (j : Nat) (a : Addr), as[j]? = some a → ∃ x y, P1 j x ∧ P2 j y ∧ IsTupOf2 h a x y
theorem ZTold.low {P1 P2 : Nat → Value → Prop} {lo : Addr} {h : Heap} {as : List Addr} (t : ZTold P1 P2 lo h as) {a : Addr} (m : a ∈ as) : a < h.objs.size := by
  obtain ⟨j, e⟩ := List.mem_iff_getElem?.mp m
  obtain ⟨_, _, _, _, q⟩ := t.two j a e
  exact Heap.lt_size q
section
variable {prog : Program} {w : World} {A : Around} {s : Shared} {z TI TO i1 i2 L : Addr} {fp1 fp2 : List Addr} {n i : Nat} {P1 P2 : Nat → Value → Prop} {St1 St2 : Nat → Heap → Prop}
theorem z_item {E : Value → Shared → Prop} {Q : Option Value → Shared → Prop} (S : ZipSep2 z TI TO i1 i2 fp1 fp2) (D1 : Draws prog w A.in1 i1 fp1 n P1 St1) (D2 : Draws prog w A.in1 i2 fp2 n P2 St2) (st : ZAt St1 St2 z TI TO i1 i2 L i s.heap) (hi : i < n) (hL : L < s.heap.objs.size) (hLz : L ≠ TI)
    (hQ : ∀ x y h' tk, P1 i x → P2 i y → ZAt St1 St2 z TI TO i1 i2 L (i + 1) h' → IsTupOf2 h' s.heap.objs.size x y → h'.objs.size = s.heap.objs.size + 1 →
      (∀ c o, c ≠ z → c ≠ TO → c ≠ i1 → c ≠ i2 → s.heap.get? c = some o → h'.get? c = some o) → Q (some (.ref s.heap.objs.size)) { s with heap := h', toks := tk }) :
    wpAny (model prog w) A (pyNext (.ref z)) Q E s := by
  obtain ⟨hTI, s1, s2, st⟩ := st
  have l1 : i1 < s.heap.objs.size := let ⟨_, e⟩ := D1.live _ _ s1; Heap.lt_size e
  have l2 : i2 < s.heap.objs.size := let ⟨_, e⟩ := D2.live _ _ s2; Heap.lt_size e
  rcases st with ⟨e0, hz, hTO⟩ | ⟨T, f, oT, hz, hT, n1, n2, n3, n4⟩
  · have lz : z < s.heap.objs.size := Heap.lt_size hz
    refine wpAny_pyNext_zipD2_item S D1 D2 hz hTI hTO s1 s2 hi hi fun x y h' tk hx hy hz' _ a1 a2 tup sz kp => ?_
    exact hQ x y h' tk hx hy ⟨kp _ _ S.TIz S.TITO S.TIi1 S.TIi2 hTI, a1, a2, .inr ⟨_, false, _, hz', tup, Nat.ne_of_gt lz, Nat.ne_of_gt l1, Nat.ne_of_gt l2, Nat.ne_of_gt hL⟩⟩ tup sz kp
  · have ty : s.TypeIs (.ref z) "zip" := ⟨_, hz, rfl⟩
    unfold pyNext
    refine wpAny_bind (wpAny_attempt (wpAny_callSpecial?_slot (name := Str.ofString "__next__") ty F.slot_zip_next (wpAny_call_entry F.slot_zip_next ty F.entry_zip_next ?_ (F.args_zip_next_1 _))))
    refine held_next S D1 D2 hz hT hTI s1 s2 hi fun x y h' tk hx hy hz' a1 a2 tup sz kp => wpAny_pure ?_
    exact hQ x y h' tk hx hy ⟨kp _ _ S.TIz S.TIi1 S.TIi2 hTI, a1, a2, .inr ⟨T, true, oT, hz', kp _ _ n1 n2 n3 hT, n1, n2, n3, n4⟩⟩ tup sz fun c o c1 _ c3 c4 e => kp c o c1 c3 c4 e
theorem z_end {E : Value → Shared → Prop} {Q : Option Value → Shared → Prop} (S : ZipSep2 z TI TO i1 i2 fp1 fp2) (D1 : Draws prog w A.in1 i1 fp1 n P1 St1) (D2 : Draws prog w A.in1 i2 fp2 n P2 St2) (st : ZAt St1 St2 z TI TO i1 i2 L n s.heap)
    (hQ : ∀ h' tk, (∀ c o, c ≠ z → c ≠ TO → c ≠ i1 → c ≠ i2 → s.heap.get? c = some o → h'.get? c = some o) → Q none { s with heap := h', toks := tk }) :
    wpAny (model prog w) A (pyNext (.ref z)) Q E s := by
  obtain ⟨hTI, s1, s2, st⟩ := st
  rcases st with ⟨e0, hz, hTO⟩ | ⟨T, f, oT, hz, hT, n1, n2, n3, n4⟩
  · exact wpAny_pyNext_zipD2_end S D1 D2 hz hTI hTO s1 s2 (Nat.le_refl _) (Nat.le_refl _) (.inl rfl) hQ
  · have ty : s.TypeIs (.ref z) "zip" := ⟨_, hz, rfl⟩
    unfold pyNext
    refine wpAny_bind (wpAny_attempt (wpAny_callSpecial?_slot (name := Str.ofString "__next__") ty F.slot_zip_next (wpAny_call_entry F.slot_zip_next ty F.entry_zip_next ?_ (F.args_zip_next_1 _))))
    refine held_end S D1 hz hT hTI s1 fun h' e kp he => ?_
    obtain ⟨o, ho, hc⟩ := he
    refine wpAny_bind (wpAny_isInstance (T := "StopIteration") (b := true) ⟨o, ho, hc⟩ isSubtype_stop ?_)
    exact wpAny_pure (hQ _ _ fun c o c1 _ c3 _ e => kp c o c1 c3 e)
/-- the draining into the new list at L -/
theorem z_loop {R : Result → Shared → Prop} (S : ZipSep2 z TI TO i1 i2 fp1 fp2) (D1 : Draws prog w A.in1.in1 i1 fp1 n P1 St1) (D2 : Draws prog w A.in1.in1 i2 fp2 n P2 St2) (hf1 : L ∉ fp1) (hf2 : L ∉ fp2) (hLz : L ≠ z) (hLT : L ≠ TI) (hLO : L ≠ TO) (cells : ∀ c, c = z ∨ c = TO ∨ c = i1 ∨ c = i2 → c < L) (hn : n ≤ sizeLine) (res : Value) {h0 : Heap}
    (hR : ∀ h' tk acc c as, (∀ b o, b ≠ L → b ≠ z → b ≠ TO → b ≠ i1 → b ≠ i2 → h0.get? b = some o → h'.get? b = some o) → h'.get? L = some { cls := .type "list", dict := none, data := .seq acc c, slots := #[] } → as.length = n → ZTold P1 P2 L h' as →
      acc.toList = as.map Value.ref → R (.ok (.ret res)) { s with heap := h', toks := tk }) :
    ∀ (k i : Nat) (h : Heap) (tk c : Nat) (acc : Array Value) (as : List Addr), n - i = k → i ≤ n → ZAt St1 St2 z TI TO i1 i2 L i h → (∀ b o, b ≠ L → b ≠ z → b ≠ TO → b ≠ i1 → b ≠ i2 → h0.get? b = some o → h.get? b = some o) →
      h.get? L = some { cls := .type "list", dict := none, data := .seq acc c, slots := #[] } → acc.toList = as.map Value.ref → as.length = i → ZTold P1 P2 L h as →
      codeAny (model prog w) A (.builtin "list.extend.loop" ⟨[.ref L, .ref z, res], []⟩) R { s with heap := h, toks := tk } := by
  have off : ∀ {b : Addr}, L ≤ b → b ≠ z ∧ b ≠ TO ∧ b ≠ i1 ∧ b ≠ i2 := fun {b} q =>
    ⟨fun e => absurd (cells z (.inl rfl)) (by rw [← e]; exact Nat.not_lt.mpr q), fun e => absurd (cells TO (.inr (.inl rfl))) (by rw [← e]; exact Nat.not_lt.mpr q), fun e => absurd (cells i1 (.inr (.inr (.inl rfl)))) (by rw [← e]; exact Nat.not_lt.mpr q), fun e => absurd (cells i2 (.inr (.inr (.inr rfl)))) (by rw [← e]; exact Nat.not_lt.mpr q)⟩
  intro k
  induction k with
  | zero =>
    intro i h tk c acc as hk hi st kp hL hacc hal told
    obtain rfl : i = n := by omega
    obtain ⟨o1, o2, o3, o4⟩ := off (Nat.le_refl L)
    refine codeAny_builtin F.entry_extend_loop ?_
    rw [Around.under_plainId F.plain_extend_loop _]
    show wpAny (model prog w) A.in1 (pyNext (.ref z) >>= _) _ _ _
    refine wpAny_bind (z_end (s := { s with heap := h, toks := tk }) S D1 D2 st fun h' tk' kq => wpAny_pure ?_)
    refine hR h' tk' acc c as (fun b o b0 b1 b2 b3 b4 e => kq b o b1 b2 b3 b4 (kp b o b0 b1 b2 b3 b4 e)) (kq L _ o1 o2 o3 o4 hL) hal ⟨told.rise, told.above, fun j a hj => ?_⟩ hacc
    obtain ⟨x, y, e1, e2, e3⟩ := told.two j a hj
    obtain ⟨q1, q2, q3, q4⟩ := off (Nat.le_of_lt (told.above a (List.mem_of_getElem? hj)))
    exact ⟨x, y, e1, e2, kq a _ q1 q2 q3 q4 e3⟩
  | succ k ih =>
    intro i h tk c acc as hk hi st kp hL hacc hal told
    have hlt : i < n := by omega
    have hsz : acc.size = i := by rw [← Array.length_toList, hacc, List.length_map, hal]
    have lL : L < h.objs.size := Heap.lt_size hL
    obtain ⟨o1, o2, o3, o4⟩ := off (Nat.le_refl L)
    refine codeAny_builtin F.entry_extend_loop ?_
    rw [Around.under_plainId F.plain_extend_loop _]
    show wpAny (model prog w) A.in1 (pyNext (.ref z) >>= _) _ _ _
    refine wpAny_bind (z_item (s := { s with heap := h, toks := tk }) S D1 D2 st hlt lL hLT fun x y h' tk' hx hy st' tup sz kq => ?_)
    dsimp only at tup sz kq ⊢
    have hL' := kq L _ o1 o2 o3 o4 hL
    have up : ∀ b o, b ≠ L → h'.get? b = some o → (h'.update L (Obj.mapSeq (·.push (Value.ref h.objs.size)))).get? b = some o := fun b o hb e => (Heap.get?_update_other _ _ (Ne.symm hb)).trans e
    have far : h.objs.size ≠ L := Nat.ne_of_gt lL
    show wpAny (model prog w) A.in1 (updateSeq L (·.push (Value.ref h.objs.size)) >>= _) _ _ _
    refine wpAny_bind (wpAny_updateSeq hL' rfl ?_ (by rw [hsz]; omega) (by show (acc.push (Value.ref h.objs.size)).size ≤ sizeLine + 1; rw [Array.size_push, hsz]; omega))
    refine wpAny_pure ⟨plainId_quiet F.plain_extend_loop _, ?_⟩
    refine ih (i + 1) _ tk' _ (acc.push (Value.ref h.objs.size)) (as ++ [h.objs.size]) (by omega) hlt ?_ (fun b o b0 b1 b2 b3 b4 e => up b o b0 (kq b o b1 b2 b3 b4 (kp b o b0 b1 b2 b3 b4 e))) (Heap.get?_update_self _ hL' rfl) (by rw [Array.toList_push, hacc, List.map_append]; rfl) (by rw [List.length_append, hal]; rfl) ⟨?_, ?_, ?_⟩
    · obtain ⟨t1, t2, t3, t4⟩ := st'
      refine ⟨up _ _ (Ne.symm hLT) t1, D1.frame _ _ _ t2 fun b hb o e => up b o (fun q => hf1 (q ▸ hb)) e, D2.frame _ _ _ t3 fun b hb o e => up b o (fun q => hf2 (q ▸ hb)) e, ?_⟩
      rcases t4 with ⟨e0, e1, e2⟩ | ⟨T, f, oT, e1, e2, m1, m2, m3, m4⟩
      · exact .inl ⟨e0, up _ _ (Ne.symm hLz) e1, up _ _ (Ne.symm hLO) e2⟩
      · exact .inr ⟨T, f, oT, up _ _ (Ne.symm hLz) e1, up _ _ m4 e2, m1, m2, m3, m4⟩
    · refine List.pairwise_append.mpr ⟨told.rise, List.pairwise_singleton _ _, fun a ha b hb => ?_⟩
      rw [List.mem_singleton.mp hb]
      exact told.low ha
    · intro a ha
      rcases List.mem_append.mp ha with ha | ha
      · exact told.above a ha
      · rw [List.mem_singleton.mp ha]; exact lL
    · intro j b hj
      rcases Nat.lt_trichotomy j as.length with q | q | q
      · rw [List.getElem?_append_left q] at hj
        obtain ⟨x', y', e1, e2, e3⟩ := told.two j b hj
        have hb := told.above b (List.mem_of_getElem? hj)
        obtain ⟨r1, r2, r3, r4⟩ := off (Nat.le_of_lt hb)
        exact ⟨x', y', e1, e2, up b _ (Nat.ne_of_gt hb) (kq b _ r1 r2 r3 r4 e3)⟩
      · subst q
        have hb : h.objs.size = b := by simpa using hj
        rw [← hb]
        exact ⟨x, y, by rw [hal]; exact hx, by rw [hal]; exact hy, up _ _ far tup⟩
      · rw [List.getElem?_eq_none (by rw [List.length_append, List.length_singleton]; omega)] at hj
        cases hj
end
theorem zip_no_len : typeLookup (.type "zip") "__len__" = pure none := am_miss_of_fast (by decide +kernel)
theorem zip_no_hint : typeLookup (.type "zip") "__length_hint__" = pure none := am_miss_of_fast (by decide +kernel)
section
variable {prog : Program} {w : World} {A : Around} {s : Shared} {z TI TO i1 i2 L : Addr} {fp1 fp2 : List Addr} {n i : Nat} {P1 P2 : Nat → Value → Prop} {St1 St2 : Nat → Heap → Prop}
theorem z_list {Q : Value → Shared → Prop} {E : Value → Shared → Prop} (S : ZipSep2 z TI TO i1 i2 fp1 fp2) (D1 : Draws prog w A.in1.in1.in1 i1 fp1 n P1 St1) (D2 : Draws prog w A.in1.in1.in1 i2 fp2 n P2 St2) (low : ∀ c, c ∈ fp1 ∨ c ∈ fp2 → c < s.heap.objs.size) (hn : n ≤ sizeLine)
    (hz : IsZip s.heap z TI TO .none) (hTI : IsTupOf2 s.heap TI (.ref i1) (.ref i2)) (hTO : IsTupOf2 s.heap TO .none .none) (s1 : St1 0 s.heap) (s2 : St2 0 s.heap)
    (hQ : ∀ h' tk acc c as, (∀ b o, b ≠ z → b ≠ TO → b ≠ i1 → b ≠ i2 → s.heap.get? b = some o → h'.get? b = some o) → h'.get? s.heap.objs.size = some { cls := .type "list", dict := none, data := .seq acc c, slots := #[] } → as.length = n → ZTold P1 P2 s.heap.objs.size h' as →
      acc.toList = as.map Value.ref → Q (.ref s.heap.objs.size) { s with heap := h', toks := tk }) :
    wpAny (model prog w) A (call (.type "list") [.ref z]) Q E s := by
  have lz : z < s.heap.objs.size := Heap.lt_size hz
  have lTI : TI < s.heap.objs.size := Heap.lt_size hTI
  have lTO : TO < s.heap.objs.size := Heap.lt_size hTO
  have l1 : i1 < s.heap.objs.size := low _ (.inl S.mem1)
  have l2 : i2 < s.heap.objs.size := low _ (.inr S.mem2)
  refine callType_codes (Q₁ := fun obj t => obj = .ref s.heap.objs.size ∧ t = { s with heap := s.heap.push { cls := .type "list", data := .seq #[] } }) F.called_list (F.typeCall_list_1 _) F.entry_list_init
    (code_list_new _ ⟨rfl, rfl⟩) fun obj t ht => ?_
  obtain ⟨rfl, rfl⟩ := ht
  have hL : (s.heap.push { cls := .type "list", data := .seq #[] }).get? s.heap.objs.size = some { cls := .type "list", data := .seq #[] } := Heap.get?_push_size _ rfl
  generalize eL : s.heap.objs.size = L at *
  refine ⟨⟨_, hL, rfl⟩, F.args_list_init_2 _ _, ?_⟩
  have mk : ∀ b o, s.heap.get? b = some o → (s.heap.push { cls := .type "list", data := .seq #[] }).get? b = some o := fun b o e => Heap.get?_push_of_some _ e
  show wpAny (model prog w) A.in1.in1 (do let old ← Builtin.List.listItems (.ref L); Builtin.List.listUpdate (.ref L) (fun _ => #[]); letGo old.toList.reverse; Builtin.List.listExtendWith (.ref L) (.ref z) .none) _ _ _
  refine wpAny_bind ?_
  unfold Builtin.List.listItems
  refine wpAny_bind (wpAny_seqItems hL rfl (wpAny_pure ?_))
  show wpAny (model prog w) A.in1.in1 (updateSeq L (fun _ => #[]) >>= fun _ => letGo (#[] : Array Value).toList.reverse >>= fun _ => Builtin.List.listExtendWith (.ref L) (.ref z) .none) _ _ _
  refine wpAny_bind (wpAny_updateSeq hL rfl ?_)
  have hL2 := Heap.get?_update_self (Obj.mapSeq (fun _ => (#[] : Array Value))) hL rfl
  have up : ∀ (h : Heap) (f : Obj → Obj), (∀ b o, s.heap.get? b = some o → h.get? b = some o) → ∀ b o, s.heap.get? b = some o → (h.update L f).get? b = some o := fun h f q b o e => (Heap.get?_update_other _ _ (fun q => by have := Heap.lt_size e; rw [eL, ← q] at this; exact Nat.lt_irrefl _ this)).trans (q b o e)
  have mk2 := up _ (Obj.mapSeq (fun _ => (#[] : Array Value))) mk
  refine wpAny_bind (wpAny_letGo ?_)
  unfold Builtin.List.listExtendWith
  have ty : ∀ {h : Heap} {q : Nat}, (∀ b o, s.heap.get? b = some o → h.get? b = some o) → ({ s with heap := h, toks := q } : Shared).TypeIs (.ref z) "zip" := fun {h q} k => ⟨_, k z _ hz, rfl⟩
  refine wpAny_bind (wpAny_typeOf (T := "zip") (ty mk2) ?_)
  have r1 : Builtin.List.listSameRef (.ref L) (.ref z) = false := by simp [Builtin.List.listSameRef, Nat.ne_of_gt lz]
  have r2 : (Value.type "zip" == Value.type "list") = false := by decide
  have r3 : (Value.type "zip" == Value.type "tuple") = false := by decide
  simp only [r1, r2, r3, Bool.or_false, Bool.false_eq_true, if_false]
  refine wpAny_bind (wpAny_pyIter_zip (mk2 _ _ hz) ?_)
  refine wpAny_bind (wpAny_holding ?_)
  unfold Builtin.List.listLengthHint
  refine wpAny_bind (wpAny_specialOf (ty mk2) zip_no_len ?_)
  show wpAny (model prog w) A.in1.in1 (specialOf (Value.ref z) (Str.ofString "__length_hint__") >>= _) _ _ _
  refine wpAny_bind (wpAny_specialOf (ty mk2) zip_no_hint ?_)
  refine wpAny_pure ?_
  show wpAny (model prog w) A.in1.in1 (rule "list.extend.makes-room" >>= fun _ => Builtin.List.listTouch (.ref L) >>= fun _ =>
    again (.builtin "list.extend.loop" ⟨[.ref L, .ref z, .none], []⟩)) _ _ _
  refine wpAny_bind (wpAny_rule (wpAny_bind ?_))
  show wpAny (model prog w) A.in1.in1 (updateSeq L (·.push .none) >>= fun _ => updateSeq L (·.pop)) _ _ _
  refine wpAny_bind (wpAny_updateSeq hL2 rfl ?_)
  have hL3 := Heap.get?_update_self (Obj.mapSeq (·.push Value.none)) hL2 rfl
  refine wpAny_updateSeq (hz := by seq_fits) hL3 rfl ?_
  have hL4 := Heap.get?_update_self (Obj.mapSeq (·.pop)) hL3 rfl
  have mk4 := up _ (Obj.mapSeq (·.pop)) (up _ (Obj.mapSeq (·.push Value.none)) mk2)
  refine wpAny_pure ⟨plainId_quiet F.plain_extend_loop _, ?_⟩
  refine z_loop (A := A.in1) (h0 := s.heap) S D1 D2 (fun q => Nat.lt_irrefl _ (low _ (.inl q))) (fun q => Nat.lt_irrefl _ (low _ (.inr q))) (Nat.ne_of_gt lz) (Nat.ne_of_gt lTI) (Nat.ne_of_gt lTO) ?_ hn .none (fun h' tk acc c as kp hL' hl told hacc => ?_)
    n 0 _ _ _ #[] [] (Nat.sub_zero _) (Nat.zero_le _) ?_ (fun b o _ _ _ _ _ e => mk4 b o e) hL4 rfl rfl ⟨List.Pairwise.nil, fun _ m => (nomatch m), fun j a e => by simp at e⟩
  · rintro c (e | e | e | e)
    · rw [e]; exact lz
    · rw [e]; exact lTO
    · rw [e]; exact l1
    · rw [e]; exact l2
  · exact ⟨rfl, hQ h' tk acc c as (fun b o b1 b2 b3 b4 e => kp b o (fun q => by have := Heap.lt_size e; rw [eL, q] at this; exact Nat.lt_irrefl _ this) b1 b2 b3 b4 e) hL' hl told hacc⟩
  · exact ⟨mk4 _ _ hTI, D1.frame _ _ _ s1 fun b _ o e => mk4 b o e, D2.frame _ _ _ s2 fun b _ o e => mk4 b o e, .inl ⟨rfl, mk4 _ _ hz, mk4 _ _ hTO⟩⟩
end
end Rz
namespace L2
open PySem PySem.Spec PyProof.Rows
/-- pairs laid one behind another -/
def putP : Hp → List Addr → List (V × V) → Hp
  | H, a :: as, p :: r => putP (upd H a (.tup [p.1, p.2])) as r
  | H, [], _ => H
  | H, _ :: _, [] => H
theorem putP_off {b : Addr} : ∀ (as : List Addr) (ps : List (V × V)) (H : Hp), b ∉ as → putP H as ps b = H b
  | [], _, _, _ => rfl
  | _ :: _, [], _, _ => rfl
  | a :: as, p :: r, H, h => by
    have h1 : b ≠ a := fun e => h (e ▸ List.mem_cons_self)
    have h2 : b ∉ as := fun e => h (List.mem_cons_of_mem _ e)
    exact (putP_off as r _ h2).trans (upd_ne h1)
theorem putP_at : ∀ (as : List Addr) (ps : List (V × V)) (H : Hp), as.Nodup → ∀ (j : Nat) (a : Addr) (p : V × V), as[j]? = some a → ps[j]? = some p → putP H as ps a = some (.tup [p.1, p.2])
  | [], _, _, _, _, _, _, e, _ => by simp at e
  | _ :: _, [], _, _, _, _, _, _, e => by simp at e
  | b :: as, q :: r, H, nd, 0, a, p, e1, e2 => by
    have e3 : b = a := by simpa using e1
    have e4 : q = p := by simpa using e2
    subst e3 e4
    exact (putP_off as r _ (List.nodup_cons.mp nd).1).trans upd_same
  | b :: as, q :: r, H, nd, j + 1, a, p, e1, e2 => putP_at as r _ (List.nodup_cons.mp nd).2 j a p (by simpa using e1) (by simpa using e2)
/-- list(zip(text, list)), both of one length: the new list at L, its pairs at as -/
def rZipS (K : PySem.W.Frag) : List V → Hp → VK → Prop := fun vs H Q => ∃ (x : Str) (b : Addr) (ys : List V), vs = [.str x, .ref b] ∧ SqL K H b ys ∧ x.cps.size = ys.length ∧
  ∀ (L : Addr) (as : List Addr) (H' : Hp), (∀ c o, H c = some o → H' c = some o) → H L = none → (∀ a ∈ as, H a = none) → L ∉ as → as.length = ys.length → H' L = some (.lst (as.map V.ref)) →
    (∀ (j : Nat) (a : Addr) (c : Nat) (y : V), as[j]? = some a → x.cps[j]? = some c → ys[j]? = some y → H' a = some (.tup [.str ⟨#[c]⟩, y])) → Q (.ref L) H'
def tZipS (K : PySem.W.Frag) (ta : TA) : TE := fun σ H Q => ta σ H fun vs H1 => rZipS K vs H1 Q
theorem vals_ix : ∀ {vs : List V} {us : List Value}, Vals vs us → ∀ {j : Nat} {u : Value}, us[j]? = some u → ∃ v, vs[j]? = some v ∧ RelV v u
  | _, _, .nil, _, _, e => by simp at e
  | _, _, .cons r _, 0, _, e => ⟨_, rfl, by have := Option.some.inj e; subst this; exact r⟩
  | _, _, .cons _ t, j + 1, _, e => vals_ix t (by simpa using e)
theorem refs_rel : ∀ as : List Addr, Vals (as.map V.ref) (as.map Value.ref)
  | [] => .nil
  | _ :: as => .cons rfl (refs_rel as)
section
variable {X : Cx} {e e2 : Expr} {ta : TA} {p q pos pos2 : Pos}
theorem pe_zipS (hc : X.calm = true) (hg : Gl X "list") (hm : X.mg "list" = none) (hgz : Gl X "zip") (hmz : X.mg "zip" = none) (ha : PA X [e, e2] ta)
    (na : starEach [.Call (.Name "zip" q) [e, e2] [] pos2] X.env = (false, eval (.Call (.Name "zip" q) [e, e2] [] pos2) X.env) :: starEach [] X.env := by rfl)
    (hs : starEach [e, e2] X.env = (false, eval e X.env) :: starEach [e2] X.env := by rfl) (hp : (backTo pos2 (starEach [e2] X.env)).any (·.1) = false := by rfl) :
    PE X (.Call (.Name "list" p) [.Call (.Name "zip" q) [e, e2] [] pos2] [] pos) (tZipS X.K ta) := by
  refine ⟨fun pins s σ H Q I h => ?_⟩
  refine Call_ (ld_blt I hg hm boot_list (PyProof.Rows.callWith_type1 (args_cons ?_ na) na))
  refine Call_ (ld_blt I hgz hmz PyProof.Rows.boot_zip (PyProof.Rows.callWith_type1 (thn (ha.run pos2 pins s σ H _ I h) fun us s1 ⟨vs, H1, I1, r1, q1⟩ => ?_) hs hp))
  obtain ⟨x, b, ys, ex, hb, hlen, fin⟩ := q1
  subst ex
  obtain ⟨u1, u2, rfl, ru, rb⟩ := vals2 r1
  obtain ⟨t, rfl⟩ := ru
  cases rb
  obtain ⟨its, rv, pl, hle⟩ := I1.list hb
  have lb : b < s1.heap.objs.size := pl.lt
  have vl : ys.length = its.length := rv.length
  refine zip_begins2 (begins_text x t) (begins_list b its.toArray) trivial pl.isList fun h1 hz hTI hTO g1 g2 hsz hk => args_nil ?_
  have hh : X.A.handled = none := I1.ok.hd hc
  have D1 := Draws.text (prog := X.prog) (w := X.w) (A := X.A.in1.in1.in1) hh s1.heap.objs.size x t
  have hbi : b ≠ s1.heap.objs.size + 1 := Nat.ne_of_lt (Nat.lt_succ_of_lt lb)
  have D2 := Draws.list (prog := X.prog) (w := X.w) (A := X.A.in1.in1.in1) hh (s1.heap.objs.size + 1) b hbi its.toArray
  have S := zip_sep2 (N := s1.heap.objs.size) (fp1 := []) (fp2 := [b]) (fun _ m => (nomatch m)) (fun c m => by rw [List.mem_singleton.mp m]; exact lb)
  have en : its.toArray.size = x.cps.size := by rw [List.size_toArray, ← vl, hlen]
  rw [en] at D2
  refine Rz.z_list (s := { s1 with heap := h1 }) (A := X.A) S D1 D2 ?_ (by omega) hz hTI hTO ⟨_, g1, rfl, rfl⟩ ⟨⟨_, g2, rfl, rfl⟩, (pl.isList).at fun o e => hk b o e⟩ fun h' tk acc c as kp hL hal told hacc => ?_
  · intro c m
    show c < h1.objs.size
    rw [hsz]
    rcases m with m | m
    · rw [List.mem_singleton.mp m]; exact Nat.lt_add_of_pos_right (by decide)
    · rcases List.mem_cons.mp m with m | m
      · rw [m]; exact Nat.add_lt_add_left (by decide) _
      · rw [List.mem_singleton.mp m]; exact Nat.lt_of_lt_of_le lb (Nat.le_add_right _ _)
  · dsimp only at kp hL told ⊢
    have lN : s1.heap.objs.size ≤ h1.objs.size := by rw [hsz]; exact Nat.le_add_right _ _
    have old : ∀ d o, s1.heap.get? d = some o → h'.get? d = some o := fun d o e => by
      have ld : d < s1.heap.objs.size := Heap.lt_size e
      exact kp d o (Nat.ne_of_lt (Nat.lt_of_lt_of_le ld (Nat.le_add_right _ _))) (Nat.ne_of_lt (Nat.lt_of_lt_of_le ld (Nat.le_add_right _ _))) (Nat.ne_of_lt ld) (Nat.ne_of_lt (Nat.lt_succ_of_lt ld)) (hk d o e)
    have nd : as.Nodup := told.rise.imp fun {a b} (h : a < b) => Nat.ne_of_lt h
    have ge : ∀ a ∈ as, s1.heap.objs.size ≤ a := fun a m => Nat.le_trans lN (Nat.le_of_lt (told.above a m))
    have new : ∀ a ∈ as, H1 a = none := fun a m => I1.hok.fresh (ge a m)
    have newL : H1 h1.objs.size = none := I1.hok.fresh lN
    have Las : h1.objs.size ∉ as := fun m => Nat.lt_irrefl _ (told.above _ m)
    have lo : ∀ d, d < s1.heap.objs.size → d ∉ as ∧ d ≠ h1.objs.size := fun d ld => ⟨fun m => absurd ld (Nat.not_lt.mpr (ge d m)), Nat.ne_of_lt (Nat.lt_of_lt_of_le ld lN)⟩
    let ps : List (V × V) := (x.cps.toList.map fun c => V.str ⟨#[c]⟩).zip ys
    have pget : ∀ (j : Nat) (c : Nat) (y : V), x.cps[j]? = some c → ys[j]? = some y → ps[j]? = some (.str ⟨#[c]⟩, y) := fun j c y e1 e2 => by
      have e3 : (x.cps.toList.map fun c => V.str ⟨#[c]⟩)[j]? = some (.str ⟨#[c]⟩) := by rw [List.getElem?_map, Array.getElem?_toList, e1]; rfl
      exact List.getElem?_zip_eq_some.mpr ⟨e3, e2⟩
    let H2 : Hp := putP (upd H1 h1.objs.size (.lst (as.map V.ref))) as ps
    have H2L : H2 h1.objs.size = some (.lst (as.map V.ref)) := (putP_off as ps _ Las).trans upd_same
    have H2off : ∀ d, d ∉ as → d ≠ h1.objs.size → H2 d = H1 d := fun d m n => (putP_off as ps _ m).trans (upd_ne n)
    have H2k : ∀ d o, H1 d = some o → H2 d = some o := fun d o e => by
      rw [H2off d (fun m => by rw [new d m] at e; cases e) (fun m => by rw [m, newL] at e; cases e)]
      exact e
    have H2a : ∀ (j : Nat) (a : Addr) (c : Nat) (y : V), as[j]? = some a → x.cps[j]? = some c → ys[j]? = some y → H2 a = some (.tup [.str ⟨#[c]⟩, y]) := fun j a c y e1 e2 e3 => putP_at as ps _ nd j a _ e1 (pget j c y e2 e3)
    refine ⟨.ref h1.objs.size, H2, ?_, rfl, fin _ as H2 H2k newL new Las (by rw [hal, hlen]) H2L H2a⟩
    refine I1.call' (ch := []) rfl ⟨fun d o u _ _ _ => old d o u, fun d o u _ _ _ => ⟨o.slots, old d o u⟩, fun d o u n _ => ?_, fun d o u _ => ⟨o, old d o u⟩, fun d _ u => H2k d _ u, fun d _ _ u => H2k d _ u, fun d _ u => ⟨#[], by rw [H2k d _ u]; simp⟩⟩ (fun d o u => ?_) I1.bare fun d m => (nomatch m)
    · obtain ⟨n1, n2⟩ := lo d (Heap.lt_size u)
      rw [H2off d n1 n2]; exact n
    · by_cases m : d ∈ as
      · obtain ⟨j, ej⟩ := List.mem_iff_getElem?.mp m
        obtain ⟨v1, v2, p1, p2, tup⟩ := told.two j d ej
        obtain ⟨c, tk2, ec, rfl⟩ := p1
        have p2' : its[j]? = some v2 := by simpa using p2
        obtain ⟨y, ey, ry⟩ := vals_ix rv p2'
        rw [H2a j d c y ej ec ey] at u
        cases u
        exact ⟨by show 2 ≤ sizeLine; decide, [.str ⟨#[c]⟩ tk2, v2], .cons ⟨_, rfl⟩ (.cons ry .nil), ⟨_, tup, rfl, _, rfl⟩⟩
      · by_cases m2 : d = h1.objs.size
        · rw [m2] at u ⊢
          rw [H2L] at u
          cases u
          refine ⟨by rw [List.length_map]; omega, acc.toList, c, by rw [hacc]; exact refs_rel as, ?_⟩
          rw [Array.toArray_toList]
          exact hL
        · rw [H2off d m m2] at u
          exact (I1.hok d o u).stay (fun d' v _ y => old d' v y) (fun d' y => H2k d' _ y) fun d' zs y => H2k d' _ y
end
end L2

/-! Built-ins over instances of own classes: len, abs, list. -/
namespace L2
open PySem PySem.Spec PyProof.Rows
section
variable {X : Cx} {CX CX2 : CXT} {k k2 : Nat} {f f2 C a dx : Addr} {fs : List (Str × V)} {fd fd2 : FuncData} {ps ps2 : List Str} {sp sp2 : Sp} {pins : List (Addr × Obj)} {σ : St} {H : Hp} {s : Shared}
/-- a def of one argument runs within a built-in -/
theorem run_one {A' : Around} {Q : VK} {E : XK} (F : FnOk X.prog X.w X.K X.mg X.base CX k f fd ps sp) (hr : Room k A') (hfr : A'.frames = X.A.frames) (hb : Binds X.K fd ps []) (hx : PassesAt CX X σ E) (I : Inv X pins σ H s) (h : sp [.ref a] H Q E) :
    wpAny (model X.prog X.w) A' (call (.ref f) [.ref a]) (EP X pins σ Q) X.xe s := run_in (vs := [.ref a]) (dvs := []) (ds := []) F hr hfr hb .nil hx I (.cons rfl .nil) (by simpa using h)
/-- len(o) by an own __len__ -/
def rLenO (C : Addr) (sp : Sp) (E : St → XK) (σ : St) : List V → Hp → VK → Prop := fun xs H Q => ∃ a dx fs, xs = [.ref a] ∧ H a = some (.ins C dx fs) ∧ sp [.ref a] H (fun v H' => ∃ n : Int, v = .int n ∧ 0 ≤ n ∧ n < 2 ^ 63 ∧ Q (.int n) H') (E σ)
def tLenO (C : Addr) (sp : Sp) (E : St → XK) (t : TA) : TE := fun σ H Q => t σ H fun vs H1 => rLenO C sp E σ vs H1 Q
theorem len_run {A' : Around} {Q : VK} {E : XK} (m : Meth X.K C "__len__" f) (F : FnOk X.prog X.w X.K X.mg X.base CX k f fd ps sp) (hr : Room (k + 1) A') (hfr : A'.frames = X.A.frames) (hb : Binds X.K fd ps []) (hx : PassesAt CX X σ E) (I : Inv X pins σ H s) (ea : H a = some (.ins C dx fs))
    (h : sp [.ref a] H (fun v H' => ∃ n : Int, v = .int n ∧ 0 ≤ n ∧ n < 2 ^ 63 ∧ Q (.int n) H') E) : wpAny (model X.prog X.w) A' (call (.builtin "len") [.ref a]) (fun u s' => ∃ n t H', u = .int n t ∧ 0 ≤ n ∧ n < 2 ^ 63 ∧ Inv X pins σ H' s' ∧ Q (.int n) H') X.xe s := by
  obtain ⟨od, J⟩ := I.instAt ea
  obtain ⟨m0, hF⟩ := I.fr
  refine PySem.W.len_K hF I.ok.mod.kin J m.at_ m.fn (thn (run_one F hr.in1 hfr hb hx I h) ?_)
  rintro u s2 ⟨x, H2, I2, rx, n, rfl, n0, n1, q⟩
  obtain ⟨t, rfl⟩ := rx
  exact ⟨⟨n0, n1⟩, n, _, H2, rfl, n0, n1, I2.tok _, q⟩
theorem pe_lenO {E : St → XK} {p pos : Pos} {e : Expr} {t : TA} (m : Meth X.K C "__len__" f) (F : FnOk X.prog X.w X.K X.mg X.base CX k f fd ps sp) (hr : Room (k + 1) X.A) (hb : Binds X.K fd ps []) (hx : ∀ σ, PassesAt CX X σ (E σ))
    (hg : Gl X "len") (hm : X.mg "len" = none) (ha : PA X [e] t) (he : starEach [e] X.env = [(false, eval e X.env)] := by rfl) : PE X (.Call (.Name "len" p) [e] [] pos) (tLenO C sp E t) := by
  constructor
  intro pins s σ H Q I h
  refine wpAny_Call_Name_kw (ld_blt I hg hm (by decide +kernel : bootBuiltins "len" = some (.builtin "len")) ?_ (by decide) (by decide))
  refine PyProof.Rows.callWith_builtin1 (thn (ha.run pos pins s σ H _ I h) ?_) he rfl
  rintro us s1 ⟨vs, H1, I1, r1, a, dx, fs, rfl, ea, q⟩
  obtain rfl := Vals.ref1 r1
  refine thn (len_run m F hr rfl hb (hx σ) I1 ea q) ?_
  rintro u s2 ⟨n, t, H2, rfl, _, _, I2, q2⟩
  exact ⟨.int n, H2, I2, ⟨t, rfl⟩, q2⟩
/-- abs(o) by an own __abs__ -/
def tAbsO (C : Addr) (sp : Sp) (E : St → XK) (t : TA) : TE := fun σ H Q => t σ H fun vs H1 => ∃ a dx fs, vs = [.ref a] ∧ H1 a = some (.ins C dx fs) ∧ sp [.ref a] H1 Q (E σ)
theorem pe_absO {E : St → XK} {p pos : Pos} {e : Expr} {t : TA} (m : Meth X.K C "__abs__" f) (F : FnOk X.prog X.w X.K X.mg X.base CX k f fd ps sp) (hr : Room (k + 1) X.A) (hb : Binds X.K fd ps []) (hx : ∀ σ, PassesAt CX X σ (E σ))
    (hg : Gl X "abs") (hm : X.mg "abs" = none) (ha : PA X [e] t) (he : starEach [e] X.env = [(false, eval e X.env)] := by rfl) : PE X (.Call (.Name "abs" p) [e] [] pos) (tAbsO C sp E t) := by
  constructor
  intro pins s σ H Q I h
  refine wpAny_Call_Name_kw (ld_blt I hg hm (by decide +kernel : bootBuiltins "abs" = some (.builtin "abs")) ?_ (by decide) (by decide))
  refine PyProof.Rows.callWith_builtin1 (thn (ha.run pos pins s σ H _ I h) ?_) he rfl
  rintro us s1 ⟨vs, H1, I1, r1, a, dx, fs, rfl, ea, q⟩
  obtain rfl := Vals.ref1 r1
  obtain ⟨od, J⟩ := I1.instAt ea
  refine Calls.call_function_entry PyProof.Rows.kind_abs PyProof.Rows.plain_abs PyProof.Rows.entry_abs (PyProof.Rows.args_abs _) ?_
  unfold Builtin.«abs»
  refine wpAny_bind (m := oneArg "abs" _) (wpAny_pure ?_)
  refine wpAny_bind (m := callSpecial? (.ref a) (Str.ofString "__abs__")) (PySem.W.special_fn I1.kIn J m.at_ (beq_iff_eq.mp m.fn) (thn (run_one F hr.in1 rfl hb (hx σ) I1 q) fun u s2 hq => ?_))
  exact wpAny_pure ⟨_, rfl, hq⟩
/-- the walk of a list's iterator into the new list at q -/
theorem it_loop {A1 : Around} {l it q : Addr} {ys : List V} {R : Result → Shared → Prop} (hh : A1.handled = none) (ne1 : l ≠ it) (ne2 : l ≠ q) (ne3 : it ≠ q) {H0 : Hp}
    (hR : ∀ s H', Inv X pins σ H' s → (∀ b, b ≠ q → b ≠ it → H' b = H0 b) → H' q = some (.lst ys) → R (.ok (.ret .none)) s) :
    ∀ (n i : Nat) (H : Hp) (s : Shared), ys.length - i = n → i ≤ ys.length → Inv X pins σ H s → (∀ b, b ≠ q → b ≠ it → H b = H0 b) → H l = some (.lst ys) → H it = some (ItO l it i) → H q = some (.lst (ys.take i)) →
      codeAny (model X.prog X.w) A1 (.builtin "list.extend.loop" ⟨[.ref q, .ref it, .none], []⟩) R s := by
  intro n
  induction n with
  | zero =>
    intro i H s hn hi I same el ei eq
    have hi' : i = ys.length := by omega
    obtain ⟨its, rv, pl, hz⟩ := I.list (.of el)
    refine codeAny_builtin PySem.F.entry_extend_loop ?_
    rw [Around.under_plainId PySem.F.plain_extend_loop _]
    show wpAny (model X.prog X.w) A1.in1 (pyNext (.ref it) >>= _) _ _ s
    have ty : s.TypeIs (.ref it) "list_iterator" := ⟨_, itO_get I ei, rfl⟩
    refine wpAny_bind ?_
    unfold pyNext
    refine wpAny_bind (wpAny_attempt (wpAny_callSpecial?_slot (name := Str.ofString "__next__") ty slot_listiter_next (wpAny_call_entry slot_listiter_next ty entry_listiter_next ?_ (args_listiter_next _))))
    have nx : ys[i]? = none := List.getElem?_eq_none (by omega)
    refine wpAny_mono (GNX.next_end (Q := fun _ _ => False) (E := fun e s' => ∃ h1 h' e' vs, e = .ref e' ∧ h1.get? it = some (GNX.itEnd i) ∧ Heap.SameBut it s.heap h1 ∧ (∀ b o, h1.get? b = some o → h'.get? b = some o) ∧ h'.get? e' = some { cls := .type "StopIteration", data := .fields vs } ∧ s' = { s with heap := h' }) (A := A1.in1) hh (itO_get I ei) pl.isList (by rw [List.getElem?_toArray]; exact rv.none_of nx) fun h1 h' e vs e1 sb kp ne he hv => ⟨h1, h', e, vs, rfl, e1, sb, kp, he, rfl⟩) ?_ ?_
    · rintro r s' ⟨v, _, z⟩
      exact z.elim
    · rintro e s' ⟨h1, h', e', vs, rfl, e1, sb, kp, he, rfl⟩
      refine wpAny_bind (wpAny_isInstance (T := "StopIteration") (b := true) ⟨_, he, rfl⟩ isSubtype_stop ?_)
      refine wpAny_pure ?_
      refine wpAny_pure ?_
      have mu : Mut (H it) := by rw [ei]; exact True.intro
      have I2 : Inv X pins σ (upd H it (ItE it i)) { s with heap := h1 } := I.write (x := it) (e := it) (t' := s.toks) mu (.inl rfl) (fun b o nb z => (sb.2 b nb).trans z) ⟨_, e1⟩ (itE_ok e1)
      have I3 : Inv X pins σ (upd H it (ItE it i)) { s with heap := h' } := I2.kept (t' := s.toks) kp
      refine hR _ _ I3 (fun b b1 b2 => by rw [upd_ne b2]; exact same b b1 b2) ?_
      rw [upd_ne (Ne.symm ne3), eq, hi', List.take_length]
  | succ n ih =>
    intro i H s hn hi I same el ei eq
    have lt : i < ys.length := by omega
    obtain ⟨its, rv, pl, hz⟩ := I.list (.of el)
    obtain ⟨u, hu, ru⟩ := rv.get (List.getElem?_eq_getElem lt)
    refine codeAny_builtin PySem.F.entry_extend_loop ?_
    rw [Around.under_plainId PySem.F.plain_extend_loop _]
    show wpAny (model X.prog X.w) A1.in1 (pyNext (.ref it) >>= _) _ _ s
    have ty : s.TypeIs (.ref it) "list_iterator" := ⟨_, itO_get I ei, rfl⟩
    refine wpAny_bind ?_
    unfold pyNext
    refine wpAny_bind (wpAny_attempt (wpAny_callSpecial?_slot (name := Str.ofString "__next__") ty slot_listiter_next (wpAny_call_entry slot_listiter_next ty entry_listiter_next ?_ (args_listiter_next _))))
    refine GNX.next_item (itO_get I ei) pl.isList (by rw [List.getElem?_toArray]; exact hu) fun h' e' sb => wpAny_pure ?_
    have mu : Mut (H it) := by rw [ei]; exact True.intro
    have I2 : Inv X pins σ (upd H it (ItO l it (i + 1))) { s with heap := h' } := I.write (x := it) (e := it) (t' := s.toks) mu (.inl rfl) (fun b o nb z => (sb.2 b nb).trans z) ⟨_, e'⟩ (itO_ok e')
    show wpAny (model X.prog X.w) A1.in1 (updateSeq q (·.push u) >>= _) _ _ _
    have eq2 : upd H it (ItO l it (i + 1)) q = some (.lst (ys.take i)) := by rw [upd_ne (Ne.symm ne3)]; exact eq
    obtain ⟨z, us, c, r2, hl, e⟩ := I2.lstM eq2
    refine wpAny_bind (wpAny_updateSeq e rfl (wpAny_pure ⟨plainId_quiet PySem.F.plain_extend_loop _, ?_⟩) (by rw [List.size_toArray]; omega) (by show (us.toArray.push u).size ≤ sizeLine + 1; rw [Array.size_push, List.size_toArray]; omega))
    have tk : ys.take (i + 1) = ys.take i ++ [ys[i]] := (List.take_succ_eq_append_getElem lt)
    have I3 := I2.lset (its' := us ++ [u]) (ys := ys.take (i + 1)) (f := (·.push u)) (t' := s.toks) eq2 e (by simp) (by rw [tk]; exact r2.append (.cons ru .nil)) (by rw [List.length_take]; omega)
    refine ih (i + 1) _ _ (by omega) lt I3 (fun b b1 b2 => by rw [upd_ne b1, upd_ne b2]; exact same b b1 b2) ?_ ?_ upd_same
    · rw [upd_ne ne2, upd_ne ne1]; exact el
    · rw [upd_ne ne3, upd_same]
/-- what lets nothing out -/
def Shut (CX : CXT) : Prop := ∀ outer H s e s', CX outer H s (fun _ _ _ => False) e s' → False
theorem shut_CX {P : Program} {w : World} : Shut (L2.CX P w) := fun _ _ _ _ _ ⟨_, _, _, _, _, _, _, _, _, _, _, _, z⟩ => z
theorem run_shut {A' : Around} {Q : VK} {E1 : Value → Shared → Prop} (F : FnOk X.prog X.w X.K X.mg X.base CX k f fd ps sp) (hr : Room k A') (hfr : A'.frames = X.A.frames) (hb : Binds X.K fd ps []) (hx : Shut CX) (I : Inv X pins σ H s) (h : sp [.ref a] H Q (fun _ _ _ => False)) :
    wpAny (model X.prog X.w) A' (call (.ref f) [.ref a]) (EP X pins σ Q) E1 s := by
  have e0 := I.env0
  have e1 : Env0 X.prog X.w X.K X.mg X.base A' X.stack s H := ⟨hfr.trans e0.frames, e0.mod, e0.bs, e0.bsz, e0.funs, e0.frf, e0.hok, e0.bare⟩
  have rr : Vals [V.ref a] [Value.ref a] := .cons rfl .nil
  refine wpAny_call (codeAny_mono (F.run A' X.stack s H ⟨[.ref a], []⟩ [.ref a] [.ref a] Q _ hr e1 (by simpa using hb s [.ref a] I.kIn (by have := F.len _ _ _ _ h; simpa using this)) rr h) ?_)
  intro res s' hq
  match res, hq with
  | .error e, hq => exact (hx _ _ _ _ _ hq).elim
  | .ok (.ret u), hq => exact I.after hq
  | .ok .next, hq => exact hq.elim
  | .ok .brk, hq => exact hq.elim
  | .ok .cont, hq => exact hq.elim
theorem len_shut {A' : Around} {P : Int → Hp → Prop} {E1 : Value → Shared → Prop} (m : Meth X.K C "__len__" f) (F : FnOk X.prog X.w X.K X.mg X.base CX k f fd ps sp) (hr : Room (k + 1) A') (hfr : A'.frames = X.A.frames) (hb : Binds X.K fd ps []) (hx : Shut CX) (I : Inv X pins σ H s) (ea : H a = some (.ins C dx fs))
    (h : sp [.ref a] H (fun v H' => ∃ n : Int, v = .int n ∧ 0 ≤ n ∧ n < 1000000 ∧ P n H') (fun _ _ _ => False)) : wpAny (model X.prog X.w) A' (call (.builtin "len") [.ref a]) (fun u s' => ∃ n t H', u = .int n t ∧ 0 ≤ n ∧ n < 1000000 ∧ Inv X pins σ H' s' ∧ P n H') E1 s := by
  obtain ⟨od, J⟩ := I.instAt ea
  obtain ⟨m0, hF⟩ := I.fr
  refine PySem.W.len_K hF I.ok.mod.kin J m.at_ m.fn (thn (run_shut F hr.in1 hfr hb hx I h) ?_)
  rintro u s2 ⟨x, H2, I2, rx, n, rfl, n0, n1, q⟩
  obtain ⟨t, rfl⟩ := rx
  exact ⟨⟨n0, by omega⟩, n, _, H2, rfl, n0, n1, I2.tok _, q⟩
/-- list(o): o's __iter__ gives a list's iterator, its __len__ a number -/
def rListO (C : Addr) (spI spL : Sp) (E : St → XK) (σ : St) : List V → Hp → VK → Prop := fun xs H Q => ∃ a dx fs, xs = [.ref a] ∧ H a = some (.ins C dx fs) ∧ ∀ q, H q = none →
  spI [.ref a] (upd H q (.lst [])) (fun v H1 => ∃ l it ys dx1 fs1, v = .ref it ∧ H1 a = some (.ins C dx1 fs1) ∧ H1 it = some (ItO l it 0) ∧
    spL [.ref a] H1 (fun m H2 => ∃ i : Int, m = .int i ∧ 0 ≤ i ∧ i < 1000000 ∧ H2 l = some (.lst ys) ∧ H2 it = some (ItO l it 0) ∧ H2 q = some (.lst []) ∧ l ≠ q ∧
      ∀ H', (∀ b, b ≠ q → b ≠ it → H' b = H2 b) → H' q = some (.lst ys) → Q (.ref q) H') (fun _ _ _ => False)) (E σ)
def tListO (C : Addr) (spI spL : Sp) (E : St → XK) (t : TA) : TE := fun σ H Q => t σ H fun vs H1 => rListO C spI spL E σ vs H1 Q
theorem pe_listO {E : St → XK} {p pos : Pos} {e : Expr} {t : TA} (mi : Meth X.K C "__iter__" f) (ml : Meth X.K C "__len__" f2) (FI : FnOk X.prog X.w X.K X.mg X.base CX k f fd ps sp) (FL : FnOk X.prog X.w X.K X.mg X.base CX2 k2 f2 fd2 ps2 sp2) (hr : Room (k + 2) X.A) (hr2 : Room (k2 + 3) X.A) (hb : Binds X.K fd ps []) (hb2 : Binds X.K fd2 ps2 [])
    (hx : ∀ σ, PassesAt CX X σ (E σ)) (hx2 : Shut CX2) (hc : X.calm = true) (hg : Gl X "list") (hm : X.mg "list" = none) (ha : PA X [e] t) (he : starEach [e] X.env = [(false, eval e X.env)] := by rfl) : PE X (.Call (.Name "list" p) [e] [] pos) (tListO C sp sp2 E t) := by
  constructor
  intro pins s σ H Q I h
  refine wpAny_Call_Name_kw (ld_blt I hg hm boot_list ?_ (by decide) (by decide))
  refine PyProof.Rows.callWith_type1 (thn (ha.run pos pins s σ H _ I h) ?_) he rfl
  rintro us s1 ⟨vs, H1, I1, r1, a, dx, fs, rfl, ea, fin⟩
  obtain rfl := Vals.ref1 r1
  have hh : X.A.handled = none := I1.ok.hd hc
  refine callType_codes (Q₁ := fun obj t => obj = .ref s1.heap.objs.size ∧ t = { s1 with heap := s1.heap.push { cls := .type "list", data := .seq #[] } }) PySem.F.called_list (PySem.F.typeCall_list_1 _) PySem.F.entry_list_init
    (code_list_new _ ⟨rfl, rfl⟩) fun obj t ht => ?_
  obtain ⟨rfl, rfl⟩ := ht
  have hL : (s1.heap.push { cls := .type "list", data := .seq #[] }).get? s1.heap.objs.size = some { cls := .type "list", data := .seq #[] } := Heap.get?_push_size _ rfl
  refine ⟨⟨_, hL, rfl⟩, PySem.F.args_list_init_2 _ _, ?_⟩
  have fr : H1 s1.heap.objs.size = none := I1.hok.fresh (Nat.le_refl _)
  have q0 := fin _ fr
  have I2 : Inv X pins σ (upd H1 s1.heap.objs.size (.lst [])) { s1 with heap := s1.heap.push { cls := .type "list", data := .seq #[] } } := I1.lnew (its := []) (t' := s1.toks) .nil (Nat.zero_le _)
  have ea2 : upd H1 s1.heap.objs.size (.lst []) a = some (.ins C dx fs) := by rw [upd_ne (ne_of_none ea fr)]; exact ea
  have aL : s1.heap.objs.size ≠ a := (ne_of_none ea fr).symm
  generalize s1.heap.objs.size = L at *
  show wpAny (model X.prog X.w) X.A.in1.in1 (do let old ← Builtin.List.listItems (.ref L); Builtin.List.listUpdate (.ref L) (fun _ => #[]); letGo old.toList.reverse; Builtin.List.listExtendWith (.ref L) (.ref a) .none) _ _ _
  refine wpAny_bind ?_
  unfold Builtin.List.listItems
  refine wpAny_bind (wpAny_seqItems hL rfl (wpAny_pure ?_))
  show wpAny (model X.prog X.w) X.A.in1.in1 (updateSeq L (fun _ => #[]) >>= fun _ => letGo (#[] : Array Value).toList.reverse >>= fun _ => Builtin.List.listExtendWith (.ref L) (.ref a) .none) _ _ _
  refine wpAny_bind (wpAny_updateSeq hL rfl ?_)
  have I3 := I2.lset (f := fun _ => #[]) (its := []) (its' := []) (ys := []) (t' := s1.toks) upd_same hL rfl .nil (Nat.zero_le _)
  rw [upd_upd] at I3
  refine wpAny_bind (wpAny_letGo ?_)
  obtain ⟨od, J⟩ := I3.instAt ea2
  obtain ⟨m0, hF⟩ := I3.fr
  unfold Builtin.List.listExtendWith
  refine wpAny_bind (J.type.here ?_)
  have r1 : Builtin.List.listSameRef (.ref L) (.ref a) = false := by simp [Builtin.List.listSameRef, aL]
  have r2 : (Value.ref C == Value.type "list") = false := rfl
  have r3 : (Value.ref C == Value.type "tuple") = false := rfl
  simp only [r1, r2, r3, Bool.or_false, Bool.false_eq_true, if_false]
  refine wpAny_bind (PySem.W.owit_iter hF I3.ok.mod.kin J mi.at_ mi.fn ?_)

  refine thn (run_one (E := E σ) FI hr.in1.in1 rfl hb (hx σ) I3 q0) ?_
  rintro u s4 ⟨v, H4, I4, rv, l, it, ys, dx1, fs1, rfl, ea4, eit, q4⟩
  cases rv
  unfold PySem.W.OwitIt
  have ty4 : s4.TypeIs (.ref it) "list_iterator" := ⟨_, itO_get I4 eit, rfl⟩
  refine wpAny_specialOf ty4 slot_listiter_next.lookup ?_
  dsimp only
  obtain ⟨od4, J4⟩ := I4.instAt ea4
  refine wpAny_bind (wpAny_holding ?_)
  unfold Builtin.List.listLengthHint
  refine wpAny_bind (wpAny_bind (J4.type.here ((PySem.W.looks_findIn I4.kIn ml.at_).here ?_)))
  refine PySem.W.KFB.if_not rfl ?_
  refine wpAny_ite_split (fun _ => ?_) (fun z => absurd rfl z)
  refine wpAny_bind (wpAny_rule ?_)
  refine wpAny_bind (wpAny_attempt (wpAny_mono (len_shut (E1 := fun _ _ => False) ml FL hr2.in1.in1 rfl hb2 hx2 I4 ea4 q4) ?_ fun _ _ z => z.elim))
  · rintro u s5 ⟨n, t, H5, rfl, n0, n1, I5, el, eit5, eL, nlL, q5⟩
    refine wpAny_bind (m := asInt? (.int n t)) (wpAny_pure ?_)
    dsimp only
    have small : Builtin.List.listTooLong n.toNat = false := notLongL (by rw [sizeLine_eq]; omega)
    rw [small]
    simp only [Bool.false_eq_true, if_false]
    refine wpAny_pure ?_
    obtain ⟨z, its, c, r3, hl3, e3⟩ := I5.lstM eL
    cases r3
    have n1 : l ≠ it := ne_of el eit5 (fun z => nomatch z)
    have n3 : it ≠ L := ne_of eit5 eL (fun z => nomatch z)
    have go : ∀ s' H', Inv X pins σ H' s' → H' = H5 → codeAny (model X.prog X.w) X.A.in1 (.builtin "list.extend.loop" ⟨[.ref L, .ref it, .none], []⟩) (wants (fun r s₂ => r = .none ∧ EP X pins σ Q (.ref L) s₂) X.xe) s' := fun s' H' I' eH => by
      subst eH
      exact it_loop (A1 := X.A.in1) (R := wants (fun r s₂ => r = .none ∧ EP X pins σ Q (.ref L) s₂) X.xe) (H0 := H') hh n1 nlL n3 (fun s'' H'' I'' same eq => ⟨rfl, .ref L, H'', I'', rfl, q5 H'' same eq⟩) ys.length 0 H' s' (Nat.sub_zero _) (Nat.zero_le _) I' (fun _ _ _ => rfl) el eit5 eL
    refine wpAny_ite_split (fun _ => ?_) (fun _ => wpAny_pure ⟨plainId_quiet PySem.F.plain_extend_loop _, go _ _ I5 rfl⟩)
    refine wpAny_bind (wpAny_rule (wpAny_bind ?_))
    show wpAny (model X.prog X.w) X.A.in1.in1 (updateSeq L (·.push .none) >>= fun _ => updateSeq L (·.pop)) _ _ _
    refine wpAny_bind (wpAny_updateSeq e3 rfl ?_)
    have I6 := I5.lset (f := (·.push Value.none)) (its' := [Value.none]) (ys := [.non]) (t' := s5.toks) eL e3 (by simp) (.cons rfl .nil) (by rw [List.length_singleton, sizeLine_eq]; decide)
    obtain ⟨z4, its4, c4, r4, hl4, e4⟩ := I6.lstM upd_same
    obtain ⟨u4, rfl, ru4⟩ := r4.one
    refine wpAny_updateSeq e4 rfl ?_ (by show 1 ≤ sizeLine; rw [sizeLine_eq]; decide) (by show 0 ≤ sizeLine + 1; exact Nat.zero_le _)
    have I7 := I6.lset (f := (·.pop)) (its := [u4]) (its' := []) (ys := []) (t' := s5.toks) upd_same e4 (by rfl) .nil (Nat.zero_le _)
    rw [upd_upd] at I7
    refine wpAny_pure ⟨plainId_quiet PySem.F.plain_extend_loop _, go _ _ I7 ?_⟩
    funext b
    by_cases hb : b = L
    · rw [hb, upd_same, eL]
    · rw [upd_ne hb]
end
end L2

/-! Facts for isinstance; code that is not reached; some more built-ins. -/
namespace Rz
open PySem PySem.Spec PyProof.Rows L2 He
def tyB (C : Str) : Fg → Bool := fun K => (Fa.cls C).ok K && (eqO (PySem.W.findIn K (.ref (ga K C)) "__class__") (some (some (.builtin "object.__class__"))) && (eqO (PySem.W.specialIn K (.builtin "object.__class__") "__get__") (some (some (.builtin "getset_descriptor.__get__"))) &&
  (decide (PySem.W.takesIn K (.builtin "object.__class__") = some true) && decide (PySem.W.mroIn K (ga K C) (.type "object") = some true))))
theorem tyB_ok {C : Str} {K : Fg} (h : tyB C K = true) : C8.InsC K (ga K C) := by
  obtain ⟨h0, h⟩ := ba h
  obtain ⟨h1, h⟩ := ba h
  obtain ⟨h2, h⟩ := ba h
  obtain ⟨h3, h4⟩ := ba h
  exact ⟨cls_ok h0, eqO_ok h1, eqO_ok h2, of_decide_eq_true h3, of_decide_eq_true h4, by unfold PySem.W.kitOne; simp⟩
/-- isinstance of an instance of C (a value of the built-in type T), asked for the built-in type U (the class D) -/
def kitCT (C : Str) (U : String) (r : Bool) : Fg → Bool := fun K => decide (PySem.W.kitOne K (.ref (ga K C)) (.type U) = some r)
def kitTC (T : String) (D : Str) (r : Bool) : Fg → Bool := fun K => decide (PySem.W.kitOne K (.type T) (.ref (ga K D)) = some r)
def kitCC (C D : Str) (r : Bool) : Fg → Bool := fun K => decide (PySem.W.kitOne K (.ref (ga K C)) (.ref (ga K D)) = some r)
theorem tyX_own {K : Fg} {C a dx : Addr} {fs : List (Str × V)} {H : Hp} (c : C8.InsC K C) (ea : H a = some (.ins C dx fs)) : TyX K H (.ref a) (.ref C) := .base (.ins ea c.cl c.ha c.hn c.htk c.hm)
end Rz
namespace L2
open PySem PySem.Spec PyProof.Rows
section
variable {X : Cx}
/-- what is never reached -/
def tDeadE : TE := fun _ _ _ => False
def tDead : TS := fun _ _ _ => False
theorem pe_dead {e : Expr} : PE X e tDeadE := ⟨fun _ _ _ _ _ _ z => z.elim⟩
theorem ps_dead {st : Stmt} : PS X st tDead := ⟨fun _ _ _ _ _ _ z => z.elim⟩
theorem pss_dead {st : List Stmt} : PSs X st tDead := ⟨fun _ _ _ _ _ _ z => z.elim⟩
def rMaxA (K : Frg) : List V → Hp → VK → Prop := rMax K
def rMinA (K : Frg) : List V → Hp → VK → Prop := rMin K
theorem c_max (hc : X.calm = true) : CallR X (.builtin "max") (rMaxA X.K) := cr_max hc
theorem c_min (hc : X.calm = true) : CallR X (.builtin "min") (rMinA X.K) := cr_min hc
def rAnyA (K : Frg) : List V → Hp → VK → Prop := rAny K
theorem c_any (hc : X.calm = true) : CallR X (.builtin "any") (rAnyA X.K) := cr_any hc
def rIterA (K : Frg) : List V → Hp → VK → Prop := rIter K
theorem c_iter : CallR X (.builtin "iter") (rIterA X.K) := call_iterL
def rInsertA : V → List V → Hp → VK → Prop := fun x vs H Q => ∃ (l : Addr) (xs : List V) (i : Int) (y : V), x = .ref l ∧ vs = [.int i, y] ∧ H l = some (.lst xs) ∧ xs.length < sizeLine ∧ 0 ≤ i ∧ i < 2 ^ 63 ∧ Q .non (upd H l (.lst (xs.take i.toNat ++ [y] ++ xs.drop i.toNat)))
theorem mt_insertA : MtR X "list.insert" rInsertA := mt_insert
end
end L2

/-! Operators, subscripts and slices over instances of the program's own classes. -/
namespace PySem.W
open PySem PySem.Calls PyProof.Rows Builtin
section
variable {prog : Program} {w : World} {A : Around} {E : Value → Shared → Prop} {s : Shared} {K : Frag} {x C L f : Addr} {h₀ : Heap} {m : Str → Option Value} {ox : Obj} {od : Option Obj}
theorem notImpl_of_CmpBack {Q : Value → Shared → Prop} {v : Value} {s' : Shared} (hv : v ≠ .notImplemented) (h : Q v s') : CmpBack Q v s' := by
  cases v <;> first | exact absurd rfl hv | exact h
/-- o[i:j] -/
theorem sub_KS {value : Expr} {lo hi : Option Expr} {p : Pos} {i : Value} {Q : Value → Shared → Prop} (F : Fr h₀ L s.heap m) (X₀ : K.In h₀) (I : InstAt s.heap x ox C od) (hs : findIn K (.ref C) "__getitem__" = some (some (.ref f))) (hf : fnIn K f = true) (hfn : isFn K (.ref f) = true) (hq : noSeq K C = true)
    (h : wpAny (model prog w) A (call (.ref f) [.ref x, i]) Q E s) :
    wpAny (model prog w) A (subscriptTail value (.Slice lo hi none p) (.ref x) i) Q E s := by
  have X := X₀.keeps F.keep
  unfold fnIn at hf
  split at hf
  · rename_i e
    unfold subscriptTail getitemInPython
    refine wpAny_bind (wpAny_bind (wpAny_bind (I.type.here ((looks_findIn X hs).here ?_))))
    dsimp only
    refine wpAny_bind (wpAny_load (X _ _ e) (wpAny_pure ?_))
    dsimp only
    show wpAny (model prog w) A (operate [i, .ref x] (getItem (.ref x) i) >>= _) Q E s
    refine wpAny_bind (wpAny_operate' (getItem_K F X₀ I hq hs hfn (wpAny_mono h (fun v s' z => ?_) fun _ _ z => z)))
    show wpAny (model prog w) A (letTemporaryGo value (.ref x) v >>= fun _ => pure v) Q E s'
    exact wpAny_bind (wpAny_letTemporaryGo (wpAny_pure z))
  · cases hf
/-- i * o of an int and an instance by its own __rmul__ -/
theorem rmul_K {i : Int} {t : Tok} {Q : Value → Shared → Prop} (np : ∀ v, ox.data ≠ .prim v) (F : Fr h₀ L s.heap m) (X₀ : K.In h₀) (I : InstAt s.heap x ox C od) (hc : selfFirst K C = true)
    (hs : findIn K (.ref C) "__rmul__" = some (some (.ref f))) (hl : findIn K (.ref C) "__mul__" = some none) (hf : isFn K (.ref f) = true)
    (hsub : subIn K (.ref C) (.type "int") = some false)
    (h : wpAny (model prog w) A (call (.ref f) [.ref x, .int i t]) (CmpBack Q) E s) : wpAny (model prog w) A (binaryOp .Mult (.int i t) (.ref x)) Q E s := by
  have X := X₀.keeps F.keep
  obtain ⟨cd, rest, hcd, hm⟩ := ksp_first hc
  have one := ksp_try (A := A) X I hs hf h
  obtain ⟨hh, g, d, tt, os⟩ := s
  have L1 : Looks (model prog w) hh (typeOf (.ref x)) (.ref C) := I.type
  have L3 : Looks (model prog w) hh (fillsNumberSlot (.ref C) "mul") true := by
    intro A Q E s k q
    have Xs := X.keeps k
    unfold fillsNumberSlot
    refine wpAny_bind ((looks_clsIn X hcd).andThen (f := fun cd => pure cd.mro) .now A _ E s k ?_)
    rw [hm, List.anyM_cons]
    refine wpAny_bind ?_
    show wpAny _ A (List.anyM _ [PySem.dunder "mul", dunderR "mul"]) _ _ _
    rw [List.anyM_cons]
    refine wpAny_bind (wpAny_bind (looks_findIn X (show findIn K (.ref C) (PySem.dunder "mul") = some none from hl) A _ E s k ?_))
    dsimp only
    refine wpAny_pure ?_
    simp only [Bool.false_eq_true, if_false]
    rw [List.anyM_cons]
    refine wpAny_bind (wpAny_bind (looks_findIn X (show findIn K (.ref C) (dunderR "mul") = some (some (.ref f)) from hs) A _ E s k ?_))
    dsimp only
    rw [if_pos (show (!ownNameWrapper (.ref f) (dunderR "mul")) = true from rfl)]
    refine wpAny_pure ?_
    rw [if_pos rfl]
    refine wpAny_pure ?_
    rw [if_pos rfl]
    exact wpAny_pure q
  have L2 : Looks (model prog w) hh (typeOf (.int i t)) (.type "int") := Looks.of_pure rfl
  have L4 : Looks (model prog w) hh (fillsNumberSlot (.type "int") "mul") true := Looks.of_pure PySem.F.fills_int_mul
  have L5 : Looks (model prog w) hh (isSubtype (.ref C) (.type "int")) false := looks_subIn X hsub
  have L6 : Looks (model prog w) hh (numberSlotInPython (.type "int") "mul") false := Looks.of_pure rfl
  have hne : (Value.type "int" == Value.ref C) = false := Bool.eq_false_iff.mpr fun q => by cases beq_iff_eq.mp q
  simp only [binaryOp, Operator.info]
  refine wpAny_holding (wpAny_bind ?_)
  unfold binaryOp1
  refine wpAny_bind (L2.at (wpAny_bind (L1.at (wpAny_bind (L4.at ?_)))))
  simp only [hne, Bool.false_eq_true, if_false]
  refine wpAny_bind (L3.at ?_)
  simp only [Bool.and_self, if_true]
  refine wpAny_bind (L5.at ?_)
  simp only [Bool.false_eq_true, if_false]
  refine wpAny_bind (L6.at ?_)
  simp only [Bool.false_eq_true, if_false]
  refine wpAny_bind (wpAny_mono (Q := fun r s' => r = none ∧ s' = ⟨hh, g, d, tt, os⟩) ?one ?two fun _ _ e => e)
  case one =>
    unfold tryMethod
    refine wpAny_bind (wpAny_callSpecial?_slot (s := ⟨hh, g, d, tt, os⟩) (typeIs_int _ i t) PySem.F.slot_int_mul (wpAny_call_entry PySem.F.slot_int_mul (typeIs_int _ i t) PySem.F.entry_int_mul ?_ (PySem.F.args_int_mul_2 _ _)))
    have e : (⟨hh, g, d, tt, os⟩ : Shared).heap.get? x = some ox := I.at_
    have fin : wpAny (model prog w) A.in1 (asInt? (.ref x)) (fun r s' => r = none ∧ s' = ⟨hh, g, d, tt, os⟩) E ⟨hh, g, d, tt, os⟩ := by
      unfold asInt?
      refine wpAny_bind (wpAny_load e ?_)
      cases q : ox.data with
      | prim v => exact absurd q (np v)
      | _ => exact wpAny_pure ⟨rfl, rfl⟩
    show wpAny (model prog w) A.in1 (asInt? (.ref x) >>= _) _ _ _
    refine wpAny_bind (wpAny_mono fin ?_ fun _ _ z => z)
    rintro r s' ⟨rfl, rfl⟩
    refine wpAny_bind (wpAny_rule ?_)
    exact wpAny_pure ⟨_, rfl, wpAny_pure ⟨rfl, rfl⟩⟩
  case two =>
    rintro r s' ⟨rfl, rfl⟩
    ksp_lk
    refine wpAny_mono one (fun r s' hr' => ?_) fun _ _ e => e
    obtain ⟨v, rfl, hq⟩ := hr'
    ksp_lk
    exact hq
end
end PySem.W
namespace L2
open PySem PySem.Spec PyProof.Rows
/-- a slice object with two ints -/
def Sli (a : Addr) (i j : Int) : HO := .ext fun h => ∃ t u, h.get? a = some { cls := .type "slice", data := .fields #[.int i t, .int j u, .none] }
/-- what a class has for its operators -/
structure OpC (K : PySem.W.Frag) (C : Addr) : Prop where
  first : PySem.W.selfFirst K C = true
  noseq : PySem.W.noSeq K C = true
section
variable {X : Cx} {CX : CXT} {k : Nat} {f C a dx : Addr} {fs : List (Str × V)} {fd : FuncData} {ps : List Str} {sp : Sp} {pins : List (Addr × Obj)} {σ : St} {H : Hp} {s : Shared} {pos : Pos} {e1 e2 e3 : Expr} {t1 t2 t3 : TE}
theorem rel_ni {x : V} {v : Value} (r : RelV x v) : v ≠ .notImplemented := by
  cases x with
  | non => intro e; rw [show v = Value.none from r] at e; cases e
  | bl b => intro e; rw [show v = Value.bool b from r] at e; cases e
  | int i => obtain ⟨t, rfl⟩ := r; intro e; cases e
  | str i => obtain ⟨t, rfl⟩ := r; intro e; cases e
  | byt i => obtain ⟨t, rfl⟩ := r; intro e; cases e
  | flt i => obtain ⟨t, rfl⟩ := r; intro e; cases e
  | ref i => intro e; rw [show v = Value.ref i from r] at e; cases e
  | ty i => intro e; rw [show v = Value.type i from r] at e; cases e
theorem EP.back {Q : VK} {v : Value} {s' : Shared} (h : EP X pins σ Q v s') : PySem.W.CmpBack (EP X pins σ Q) v s' := by
  obtain ⟨x, H', I, r, q⟩ := h
  exact PySem.W.notImpl_of_CmpBack (rel_ni r) ⟨x, H', I, r, q⟩
/-- a def of two arguments runs within an operator -/
theorem run_two {A' : Around} {Q : VK} {E : XK} {y : V} {u : Value} (F : FnOk X.prog X.w X.K X.mg X.base CX k f fd ps sp) (hr : Room k A') (hfr : A'.frames = X.A.frames) (hb : Binds X.K fd ps []) (hx : PassesAt CX X σ E) (I : Inv X pins σ H s) (ry : RelV y u) (h : sp [.ref a, y] H Q E) :
    wpAny (model X.prog X.w) A' (call (.ref f) [.ref a, u]) (EP X pins σ Q) X.xe s := run_in (vs := [.ref a, y]) (dvs := []) (ds := []) F hr hfr hb .nil hx I (.cons rfl (.cons ry .nil)) (by simpa using h)
def tOwn (C : Addr) (sp : Sp) (E : St → XK) (P : V → Hp → Prop) (ta tb : TE) : TE := fun σ H Q => ta σ H fun x H1 => tb σ H1 fun y H2 => ∃ a dx fs, x = .ref a ∧ H2 a = some (.ins C dx fs) ∧ P y H2 ∧ sp [.ref a, y] H2 Q (E σ)
def isIns (C : Addr) : V → Hp → Prop := fun y H => ∃ b dx fs, y = .ref b ∧ H b = some (.ins C dx fs)
def anyV : V → Hp → Prop := fun _ _ => True
def isIntV : V → Hp → Prop := fun y _ => ∃ i, y = .int i
/-- o + q of two instances of one class -/
theorem pe_addO {op : Operator} {E : St → XK} (m : Meth X.K C (PySem.dunder op.info.2) f) (c : OpC X.K C) (F : FnOk X.prog X.w X.K X.mg X.base CX k f fd ps sp) (hr : Room k X.A) (hb : Binds X.K fd ps []) (hx : ∀ σ, PassesAt CX X σ (E σ))
    (ha : PE X e1 t1) (hb2 : PE X e2 t2) : PE X (.BinOp e1 op e2 pos) (tOwn C sp E (isIns C) t1 t2) := by
  refine ⟨fun pins s σ H Q I h => wpAny_BinOp (binT ha hb2 I h fun v u s2 x y H2 I2 rx ry q => ?_)⟩
  obtain ⟨a, dx, fs, rfl, ea, ⟨b, dx2, fs2, rfl, eb⟩, q⟩ := q
  cases rx
  cases ry
  obtain ⟨od, J⟩ := I2.instAt ea
  obtain ⟨od2, J2⟩ := I2.instAt eb
  obtain ⟨m0, hF⟩ := I2.fr
  exact PySem.W.binop_K hF I2.ok.mod.kin J J2.type c.first m.at_ m.fn (thn (run_two (y := .ref b) F hr rfl hb (hx σ) I2 rfl q) fun _ _ z => z.back)
/-- x in o -/
def tInO (C : Addr) (sp : Sp) (E : St → XK) (ta tb : TE) : TE := fun σ H Q => ta σ H fun x H1 => tb σ H1 fun y H2 => ∃ a dx fs, y = .ref a ∧ H2 a = some (.ins C dx fs) ∧ sp [.ref a, x] H2 (fun v H' => ∃ b, v = .bl b ∧ Q (.bl b) H') (E σ)
theorem in_run {E : St → XK} {x : V} {u : Value} {Q : VK} (m : Meth X.K C "__contains__" f) (F : FnOk X.prog X.w X.K X.mg X.base CX k f fd ps sp) (hr : Room k X.A) (hb : Binds X.K fd ps []) (hx : ∀ σ, PassesAt CX X σ (E σ)) (I2 : Inv X pins σ H s) (rx : RelV x u) (ea : H a = some (.ins C dx fs))
    (q : sp [.ref a, x] H (fun v H' => ∃ b, v = .bl b ∧ Q (.bl b) H') (E σ)) : wpAny (model X.prog X.w) X.A (compareOp .In u (.ref a)) (EP X pins σ Q) X.xe s := by
  obtain ⟨od, J⟩ := I2.instAt ea
  obtain ⟨m0, hF⟩ := I2.fr
  refine PySem.W.in_K hF I2.ok.mod.kin J m.at_ m.fn (thn (run_two F hr rfl hb (hx σ) I2 rx q) ?_)
  rintro v s3 ⟨z, H3, I3, rz, b, rfl, q3⟩
  cases rz
  exact wpAny_truthy_bool ⟨.bl b, H3, I3, rfl, q3⟩
theorem pe_inO {E : St → XK} (m : Meth X.K C "__contains__" f) (F : FnOk X.prog X.w X.K X.mg X.base CX k f fd ps sp) (hr : Room k X.A) (hb : Binds X.K fd ps []) (hx : ∀ σ, PassesAt CX X σ (E σ))
    (ha : PE X e1 t1) (hb2 : PE X e2 t2) (hm : behindInMarks .In e2 = false) : PE X (.Compare e1 [.In] [e2] pos) (tInO C sp E t1 t2) := by
  refine ⟨fun pins s σ H Q I h => wpAny_Compare1 (binT ha hb2 I h fun v u s2 x y H2 I2 rx ry q => ?_) hm⟩
  obtain ⟨a, dx, fs, rfl, ea, q⟩ := q
  cases ry
  exact in_run m F hr hb hx I2 rx ea q
/-- o[i] by an own __getitem__ -/
theorem pe_getO {E : St → XK} (m : Meth X.K C "__getitem__" f) (hf : PySem.W.fnIn X.K f = true) (F : FnOk X.prog X.w X.K X.mg X.base CX k f fd ps sp) (hr : Room (k + 1) X.A) (hb : Binds X.K fd ps []) (hx : ∀ σ, PassesAt CX X σ (E σ))
    (ha : PE X e1 t1) (hb2 : PE X e2 t2) (hs : ∀ o i, subscripted e2 true o i = runValue (.builtin "lifetime.subscript" ⟨[o, i], []⟩)) : PE X (.Subscript e1 e2 pos) (tOwn C sp E anyV t1 t2) := by
  refine ⟨fun pins s σ H Q I h => Subscript_ (binT ha hb2 I h fun v u s2 x y H2 I2 rx ry q => ?_)⟩
  obtain ⟨a, dx, fs, rfl, ea, _, q⟩ := q
  cases rx
  obtain ⟨od, J⟩ := I2.instAt ea
  obtain ⟨m0, hF⟩ := I2.fr
  exact PySem.W.sub_K hF I2.ok.mod.kin J m.at_ hf m.fn (run_two F hr.in1 rfl hb (hx σ) I2 ry q) (hs _ _)
/-- i:j in a subscript -/
def tSli (ta tb : TE) : TE := fun σ H Q => ta σ H fun x H1 => tb σ H1 fun y H2 => ∃ i j, x = .int i ∧ y = .int j ∧ ∀ p, H2 p = none → Q (.ref p) (upd H2 p (Sli p i j))
theorem pe_sli {p2 : Pos} (ha : PE X e1 t1) (hb2 : PE X e2 t2) : PE X (.Slice (some e1) (some e2) none p2) (tSli t1 t2) := by
  refine ⟨fun pins s σ H Q I h => ?_⟩
  refine wpAny_Slice (thn (ha.run pins s σ H _ I h) fun vl s2 ⟨x, H2, I2, r1, q2⟩ => thn (hb2.run pins s2 σ H2 _ I2 q2) fun vu s3 ⟨y, H3, I3, r2, q3⟩ => ?_)
  obtain ⟨i, j, rfl, rfl, q⟩ := q3
  obtain ⟨t, rfl⟩ := r1
  obtain ⟨u, rfl⟩ := r2
  rw [evalPart_none]
  refine wpAny_pure ?_
  have fr : H3 s3.heap.objs.size = none := I3.hok.fresh (Nat.le_refl _)
  have I4 : Inv X pins σ (upd H3 s3.heap.objs.size (Sli s3.heap.objs.size i j)) { s3 with heap := s3.heap.push { cls := .type "slice", data := .fields #[.int i t, .int j u, .none] } } :=
    I3.laid (t' := s3.toks) (fun _ _ q => Heap.get?_push_of_some _ q) (Nat.le_refl _) ⟨⟨t, u, Heap.get?_push_size _ rfl⟩, ⟨_, Heap.get?_push_size _ rfl⟩, fun h1 h2 z k => let ⟨t, u, e⟩ := z; ⟨t, u, k _ e⟩⟩
  exact ⟨.ref s3.heap.objs.size, _, I4, rfl, q _ fr⟩
theorem pe_getOS {lo hi : Option Expr} {p2 : Pos} {E : St → XK} (m : Meth X.K C "__getitem__" f) (hf : PySem.W.fnIn X.K f = true) (c : OpC X.K C) (F : FnOk X.prog X.w X.K X.mg X.base CX k f fd ps sp) (hr : Room k X.A) (hb : Binds X.K fd ps []) (hx : ∀ σ, PassesAt CX X σ (E σ))
    (ha : PE X e1 t1) (hb2 : PE X (.Slice lo hi none p2) t2) : PE X (.Subscript e1 (.Slice lo hi none p2) pos) (tOwn C sp E anyV t1 t2) := by
  refine ⟨fun pins s σ H Q I h => Subscript_ (binT ha hb2 I h fun v u s2 x y H2 I2 rx ry q => ?_)⟩
  obtain ⟨a, dx, fs, rfl, ea, _, q⟩ := q
  cases rx
  obtain ⟨od, J⟩ := I2.instAt ea
  obtain ⟨m0, hF⟩ := I2.fr
  exact PySem.W.sub_KS hF I2.ok.mod.kin J m.at_ hf m.fn c.noseq (run_two F hr rfl hb (hx σ) I2 ry q)
/-- o[i] = v by an own __setitem__ -/
def gSubO (C : Addr) (sp : Sp) (E : St → XK) (to ti : TE) : TG := fun v σ H Q => to σ H fun x H1 => ti σ H1 fun i H2 => ∃ a dx fs, x = .ref a ∧ H2 a = some (.ins C dx fs) ∧ sp [.ref a, i, v] H2 (fun _ H3 => Q σ H3) (E σ)
theorem pg_subO {l : List Value → List Value} {E : St → XK} (m : Meth X.K C "__setitem__" f) (c : OpC X.K C) (F : FnOk X.prog X.w X.K X.mg X.base CX k f fd ps sp) (hr : Room k X.A) (hb : Binds X.K fd ps []) (hx : ∀ σ, PassesAt CX X σ (E σ))
    (ho : PE X e1 t1) (hi : PE X e2 t2)
    (ha : ∀ v, assign (.Subscript e1 e2 pos) X.env v = (do
      let ov ← holding [v] (eval e1 X.env)
      let iv ← holding [v, ov] (eval e2 X.env)
      standAt pos
      holding [v, ov, iv] (setItem ov iv v)
      release (l [v, ov, iv]) [])) : PG X (.Subscript e1 e2 pos) (gSubO C sp E t1 t2) := by
  refine ⟨fun pins s σ H v u Q I r h => ?_⟩
  rw [ha]
  refine wpAny_bind (wpAny_holding (thn (ho.run pins s σ H _ I h) fun ov s1 ⟨x, H1, I1, r1, q1⟩ => ?_))
  refine wpAny_bind (wpAny_holding (thn (hi.run pins s1 σ H1 _ I1 q1) fun iv s2 ⟨y, H2, I2, r2, a, dx, fs, ex, ea, q2⟩ => ?_))
  subst ex
  cases r1
  obtain ⟨od, J⟩ := I2.instAt ea
  obtain ⟨m0, hF⟩ := I2.fr
  refine wpAny_bind (wpAny_standAt (wpAny_bind (wpAny_holding (PySem.W.ksp_setItem hF I2.ok.mod.kin J c.noseq m.at_ m.fn (thn (run_in (vs := [.ref a, y, v]) (dvs := []) (ds := []) F hr rfl hb .nil (hx σ) I2 (.cons rfl (.cons r2 (.cons r .nil))) (by simpa using q2)) ?_)))))
  rintro z s3 ⟨zv, H3, I3, _, q3⟩
  exact wpAny_release ⟨σ, H3, I3, q3⟩
end
end L2

/-! Slices as values; operators of own classes with ints; += of own classes. -/
namespace L2
open PySem PySem.Spec PyProof.Rows
section
variable {X : Cx} {CX : CXT} {k : Nat} {f C a dx : Addr} {fs : List (Str × V)} {fd : FuncData} {ps : List Str} {sp : Sp} {pins : List (Addr × Obj)} {σ : St} {H : Hp} {s : Shared} {pos : Pos} {e1 e2 e3 : Expr} {t1 t2 t3 : TE}
theorem passE0 (σ : St) : PassesAt (L2.CX X.prog X.w) X σ E0 := fun _ _ _ _ _ _ h => by
  obtain ⟨_, _, _, _, _, _, _, _, _, _, _, _, z⟩ := h
  exact z.elim
theorem fnIn_D {K : Frg} {x qual : Str} {params : Arguments} {body : List Stmt} {scope : Scope} {dvs : List V} {kws : List (Str × V)} (F : FunD K x qual params body scope dvs kws f fd) : PySem.W.fnIn K f = true := by
  obtain ⟨oc, od, dV, kV, doc, pm, an, cdv, ct, osl, rfl, lk, _⟩ := F.ex
  unfold PySem.W.fnIn
  rw [lk]
theorem sli_of {p : Addr} {i j : Int} (I : Inv X pins σ H s) (h : H p = some (Sli p i j)) : ∃ t u, s.heap.IsSliceOf p (.int i t) (.int j u) .none := by
  obtain ⟨⟨t, u, e⟩, _⟩ := I.hok p _ h
  exact ⟨t, u, _, e, rfl, rfl⟩
/-- a[s], s a slice object -/
def rIxSl (r : SlV) : R2 := fun x y H Q => ∃ p i j, y = .ref p ∧ H p = some (Sli p i j) ∧ r x (some i) (some j) H Q
theorem ix_sli {r : SlV} (hr : SlR X r) : IxR X (rIxSl r) := by
  intro value slice pins s σ H x y v u Q I rx ry h hs
  obtain ⟨p, i, j, rfl, hp, q⟩ := h
  cases ry
  obtain ⟨t, u, e⟩ := sli_of I hp
  obtain ⟨T, id, hT, ht, hg⟩ := hr pins s σ H x v _ _ _ _ p Q I rx e (.int i t) (.int j u) q
  exact tail_any ht hT hg hs
/-- a[i], a[s] -/
def rIxW (K : Frg) : R2 := fun x y H Q => rIx K x y H Q ∨ rIxSl (rSlA K) x y H Q
theorem ix_W : IxR X (rIxW X.K) := ix_seq.or (ix_sli sl_A)
/-- a[s] = b of lists, s a slice object -/
def rSetSl : TSet := fun o i v H Q => ∃ l b p xs ys c d, o = .ref l ∧ i = .ref p ∧ v = .ref b ∧ H l = some (.lst xs) ∧ H b = some (.lst ys) ∧ l ≠ b ∧ H p = some (Sli p c d) ∧ 0 ≤ c ∧ c ≤ d ∧ d ≤ xs.length ∧ xs.length + ys.length ≤ sizeLine ∧ Q (upd H l (.lst (xs.take c.toNat ++ ys ++ xs.drop d.toNat)))
theorem set_sli : PSet X rSetSl := by
  intro pins s σ H o i v ov iv u Q I ro ri rv h
  obtain ⟨l, b, p, xs, ys, c, d, rfl, rfl, rfl, hl, hb, ne, hp, h0, hcd, hd, hz, q⟩ := h
  cases ro
  cases ri
  cases rv
  obtain ⟨t, w, e⟩ := sli_of I hp
  exact set_slice I hl hb ne e ⟨t, rfl⟩ ⟨w, rfl⟩ h0 hcd hd hz fun s' I' => ⟨_, I', q⟩
def rSetW : TSet := fun o i v H Q => rSetL o i v H Q ∨ rSetSl o i v H Q
theorem set_W : PSet X rSetW := by
  intro pins s σ H o i v ov iv u Q I ro ri rv h
  rcases h with h | h
  · exact set_list pins s σ H o i v ov iv u Q I ro ri rv h
  · exact set_sli pins s σ H o i v ov iv u Q I ro ri rv h
/-- i * o -/
structure RmC (K : PySem.W.Frag) (C : Addr) : Prop where
  no : PySem.W.findIn K (.ref C) "__mul__" = some none
  sub : PySem.W.subIn K (.ref C) (.type "int") = some false
def tRmul (C : Addr) (sp : Sp) (E : St → XK) (ta tb : TE) : TE := fun σ H Q => ta σ H fun x H1 => tb σ H1 fun y H2 => ∃ i a dx fs, x = .int i ∧ y = .ref a ∧ H2 a = some (.ins C dx fs) ∧ sp [.ref a, .int i] H2 Q (E σ)
theorem pe_rmulO {E : St → XK} (m : Meth X.K C "__rmul__" f) (c : OpC X.K C) (c2 : RmC X.K C) (F : FnOk X.prog X.w X.K X.mg X.base CX k f fd ps sp) (hr : Room k X.A) (hb : Binds X.K fd ps []) (hx : ∀ σ, PassesAt CX X σ (E σ))
    (ha : PE X e1 t1) (hb2 : PE X e2 t2) : PE X (.BinOp e1 .Mult e2 pos) (tRmul C sp E t1 t2) := by
  refine ⟨fun pins s σ H Q I h => wpAny_BinOp (binT ha hb2 I h fun v u s2 x y H2 I2 rx ry q => ?_)⟩
  obtain ⟨i, a, dx, fs, rfl, rfl, ea, q⟩ := q
  obtain ⟨t, rfl⟩ := rx
  cases ry
  obtain ⟨od, J⟩ := I2.instAt ea
  obtain ⟨m0, hF⟩ := I2.fr
  exact PySem.W.rmul_K (fun v z => by cases z) hF I2.ok.mod.kin J c.first m.at_ c2.no m.fn c2.sub (thn (run_two (y := .int i) F hr rfl hb (hx σ) I2 ⟨t, rfl⟩ q) fun _ _ z => z.back)
/-- o op i -/
structure BiC (K : PySem.W.Frag) (C : Addr) (nm : String) : Prop where
  r : PySem.W.findIn K (.ref C) (PySem.dunderR nm) = some none
  f1 : ∃ v, PySem.W.findIn K (.type "int") (PySem.dunder nm) = some v
  f2 : ∃ v, PySem.W.findIn K (.type "int") (PySem.dunderR nm) = some v
  sub : PySem.W.subIn K (.type "int") (.ref C) = some false
theorem pe_binI {op : Operator} {E : St → XK} (m : Meth X.K C (PySem.dunder op.info.2) f) (c : OpC X.K C) (c2 : BiC X.K C op.info.2) (F : FnOk X.prog X.w X.K X.mg X.base CX k f fd ps sp) (hr : Room k X.A) (hb : Binds X.K fd ps []) (hx : ∀ σ, PassesAt CX X σ (E σ))
    (ha : PE X e1 t1) (hb2 : PE X e2 t2) : PE X (.BinOp e1 op e2 pos) (tOwn C sp E isIntV t1 t2) := by
  refine ⟨fun pins s σ H Q I h => wpAny_BinOp (binT ha hb2 I h fun v u s2 x y H2 I2 rx ry q => ?_)⟩
  obtain ⟨a, dx, fs, rfl, ea, ⟨i, rfl⟩, q⟩ := q
  cases rx
  obtain ⟨t, rfl⟩ := ry
  obtain ⟨od, J⟩ := I2.instAt ea
  obtain ⟨m0, hF⟩ := I2.fr
  obtain ⟨v1, f1⟩ := c2.f1
  obtain ⟨v2, f2⟩ := c2.f2
  exact PySem.W.ksp_binT (T := "int") hF I2.ok.mod.kin J rfl c.first m.at_ m.fn c2.r (.inl rfl) f1 f2 c2.sub (thn (run_two (y := .int i) F hr rfl hb (hx σ) I2 ⟨t, rfl⟩ q) fun _ _ z => z.back)
/-- x op= q, x an instance with its own method -/
def rIpO (C : Addr) (sp : Sp) (E : XK) : TIp := fun x y H Q => ∃ a dx fs, x = .ref a ∧ H a = some (.ins C dx fs) ∧ sp [.ref a, y] H Q E
theorem ip_own {op : Operator} {E : XK} (m : Meth X.K C (PySem.dunderI op.info.2) f) (c : OpC X.K C) (F : FnOk X.prog X.w X.K X.mg X.base CX k f fd ps sp) (hr : Room k X.A) (hb : Binds X.K fd ps []) (hx : ∀ σ, PassesAt CX X σ E) : PIp X op (rIpO C sp E) := by
  intro pins s σ H x y v u Q I rx ry h
  obtain ⟨a, dx, fs, rfl, ea, q⟩ := h
  cases rx
  obtain ⟨od, J⟩ := I.instAt ea
  obtain ⟨m0, hF⟩ := I.fr
  exact PySem.W.ksp_inplace hF I.ok.mod.kin J c.first m.at_ m.fn (thn (run_two F hr rfl hb (hx σ) I ry q) fun _ _ z => z.back)
end
end L2
namespace Rz
open PySem PySem.Spec PyProof.Rows L2 He
def opB (C : Str) : Fg → Bool := fun K => PySem.W.selfFirst K (ga K C) && PySem.W.noSeq K (ga K C)
theorem opB_ok {C : Str} {K : Fg} (h : opB C K = true) : OpC K (ga K C) := ⟨(ba h).1, (ba h).2⟩
def rmB (C : Str) : Fg → Bool := fun K => eqO (PySem.W.findIn K (.ref (ga K C)) "__mul__") (some none) && decide (PySem.W.subIn K (.ref (ga K C)) (.type "int") = some false)
theorem rmB_ok {C : Str} {K : Fg} (h : rmB C K = true) : RmC K (ga K C) := ⟨eqO_ok (ba h).1, of_decide_eq_true (ba h).2⟩
def biB (C : Str) (nm : String) : Fg → Bool := fun K => (eqO (PySem.W.findIn K (.ref (ga K C)) (PySem.dunderR nm)) (some none) && decide (PySem.W.subIn K (.type "int") (.ref (ga K C)) = some false)) && ((PySem.W.findIn K (.type "int") (PySem.dunder nm)).isSome && (PySem.W.findIn K (.type "int") (PySem.dunderR nm)).isSome)
theorem biB_ok {C : Str} {nm : String} {K : Fg} (h : biB C nm K = true) : BiC K (ga K C) nm :=
  ⟨eqO_ok (ba (ba h).1).1, Option.isSome_iff_exists.mp (ba (ba h).2).1, Option.isSome_iff_exists.mp (ba (ba h).2).2, of_decide_eq_true (ba (ba h).1).2⟩
end Rz

/-! isinstance of a slice object. -/
namespace RzSl
open PySem PySem.F
theorem ga_entry : entryFor table "slice.__getattribute__" = some Builtin.«object.__getattribute__» := by
  refine entryFor_alias (id' := "object.__getattribute__") ?_ ?_ ?_ ?_
  · kernel_rfl
  · first | rfl | decide +kernel
  · decide +kernel
  · kernel_rfl
theorem ga_slot : Slot "slice" "__getattribute__" "slice.__getattribute__" := by
  refine Slot.of (owner := "slice") (n := "__getattribute__") ?_ ?_ ?_ ?_ ?_ ?_
  · rw [typeLookup_type, builtinLookup_eq_fast]
    kernel_rfl
  · decide +kernel
  · decide +kernel
  · decide +kernel
  · first | exact .inl (by decide +kernel) | exact .inr (by decide +kernel)
  · rw [isSubtype_type]
    kernel_rfl
theorem ga_args (a b : Value) : argsOk "slice.__getattribute__" ⟨[a, b], []⟩ := by
  unfold argsOk
  kernel_rfl
theorem cls_lk : typeLookup (.type "slice") "__class__" = pure (some (.builtin "object.__class__")) := by
  rw [typeLookup_type, builtinLookup_eq_fast]
  kernel_rfl
theorem cls_owner : isSubtype (.type "slice") (.type (".".intercalate ("object.__class__".cutAt '.').dropLast)) = pure true := by
  rw [owner_object_class]
  rw [isSubtype_type]
  kernel_rfl
section
variable {P : Program} {w : World} {A : Around} {E : Value → Shared → Prop} {h : Heap} {g : Array GenState} {d : Drawn} {t : Nat} {os : OsState} {a : Addr} {o : Obj}
theorem c_get {R : Result → Shared → Prop} (hx : h.get? a = some o) (hc : o.cls = .type "slice") (hq : R (.ok (.ret (.type "slice"))) ⟨h, g, d, t, os⟩) :
    codeAny (model P w) A (.call (.builtin "getset_descriptor.__get__") ⟨[.builtin "object.__class__", .ref a, .type "slice"], []⟩) R ⟨h, g, d, t, os⟩ := by
  have k1 : (⟨h, g, d, t, os⟩ : Shared).TypeIs (.ref a) "slice" := ⟨_, hx, hc⟩
  have k2 : (⟨h, g, d, t, os⟩ : Shared).TypeIs (.builtin "object.__class__") "getset_descriptor" := typeOf_object_class
  have k3 := cls_owner
  refine codeAny_call_builtin slot_gs_get.plain entry_gs_get ?_
  refine slot_gs_get.check _ _ _ _ _ _ _ _ k2 (args_gs_get _ _ _) ?_
  repeat (any_goals (first | assumption | wp_step))
  refine ⟨Code.quiet_builtin _ (by decide +kernel), ?_⟩
  refine codeAny_builtin entry_object_class ?_
  repeat (any_goals (first | assumption | wp_step))
theorem c_entry {tk : Tok} {Q : Fin → Shared → Prop} (hx : h.get? a = some o) (hc : o.cls = .type "slice") (hq : Q (.done (.ret (.type "slice"))) ⟨h, g, d, t, os⟩) :
    wpAny (model P w) A (Builtin.«object.__getattribute__» ⟨[.ref a, .str "__class__" tk], []⟩) Q E ⟨h, g, d, t, os⟩ := by
  have k1 : (⟨h, g, d, t, os⟩ : Shared).TypeIs (.ref a) "slice" := ⟨_, hx, hc⟩
  have k2 : (⟨h, g, d, t, os⟩ : Shared).TypeIs (.builtin "object.__class__") "getset_descriptor" := typeOf_object_class
  have k3 := cls_lk
  have k4 := typeOf_object_class
  have k5 := slot_gs_get.lookup
  have k6 := slot_gs_set.lookup
  repeat (any_goals (first | assumption | wp_step))
  refine c_get hx hc ?_
  repeat (any_goals (first | assumption | wp_step))
theorem c_by {tk : Tok} {Q : Value → Shared → Prop} (hx : h.get? a = some o) (hc : o.cls = .type "slice") (hq : Q (.type "slice") ⟨h, g, d, t, os⟩) : wpAny (model P w) A (getAttrBy (.ref a) (.str "__class__" tk) false) Q E ⟨h, g, d, t, os⟩ := by
  have k1 : (⟨h, g, d, t, os⟩ : Shared).TypeIs (.ref a) "slice" := ⟨_, hx, hc⟩
  have k2 := ga_slot.lookup
  have k3 := ga_slot.bind (.ref a)
  repeat (any_goals (first | assumption | wp_step))
  refine codeAny_call_builtin ga_slot.plain ga_entry ?_
  refine ga_slot.check _ _ _ _ _ _ _ _ k1 (ga_args _ _) ?_
  refine c_entry hx hc ?_
  repeat (any_goals (first | assumption | wp_step))
theorem c_attr {Q : Option Value → Shared → Prop} (hx : h.get? a = some o) (hc : o.cls = .type "slice") (hq : Q (some (.type "slice")) ⟨h, g, d, t + 1, os⟩) : wpAny (model P w) A (getAttr? (.ref a) "__class__") Q E ⟨h, g, d, t, os⟩ := by
  unfold getAttr? getAttrBy?
  repeat (any_goals (first | assumption | with_reducible apply c_by hx hc | wp_step))
end
theorem kit {K : PySem.W.Frag} {a : Addr} : PySem.W.KitX K (.ref a) (.type "slice") (PySem.W.KitAt a "slice") := by
  refine PySem.W.kitx_of PySem.W.kitAt_ty ?_
  intro P w A E Q s p k
  obtain ⟨h, g, d, t, os⟩ := s
  obtain ⟨o, h1, h2⟩ := p
  exact c_attr h1 h2 k
end RzSl
namespace L2
open PySem PySem.Spec PyProof.Rows
/-- isinstance, slice objects besides -/
def rIsiW (K : Frg) : RC := fun xs H Q => rIsi K xs H Q ∨ ∃ p i j c u b, xs = [.ref p, c] ∧ H p = some (Sli p i j) ∧ ClsV c u ∧ PySem.W.kitOne K (.type "slice") u = some b ∧ Q (.bl b) H
theorem c_isiW {X : Cx} : CallR X (.builtin "isinstance") (rIsiW X.K) := by
  intro pins s σ H xs us Q I r h
  rcases h with h | ⟨p, i, j, c, u, b, rfl, hp, k, e, q⟩
  · exact call_isi pins s σ H xs us Q I r h
  · obtain ⟨u1, u2, rfl, r1, r2⟩ := vals2 r
    have e2 := k.eq r2
    subst e2
    cases r1
    obtain ⟨⟨t, u, e3⟩, _⟩ := I.hok p _ hp
    exact PySem.W.kia_one RzSl.kit I.kIn ⟨_, e3, rfl⟩ e (fun z => nomatch z) fun tk => ⟨.bl b, H, I.tok tk, rfl, q⟩
end L2

/-! Calls with keywords; instances called. -/
namespace L2
open PySem PySem.Spec PyProof.Rows
section
variable {K : PySem.W.Frag} {x qual : Str} {params : Arguments} {body : List Stmt} {scope : Scope} {dvs : List V} {kws : List (Str × V)} {f : Addr} {fd : FuncData} {ps : List Str}
/-- a def with defaults, none of them keyword-only: keywords ks -/
theorem FunD.kbD (F : FunD K x qual params body scope dvs [] f fd) (n : Nat) (ks : List Str) (g : {α : Type} → List α → List α → List α → List α) (hd : dvs ≠ [])
    (hrel : ∀ {vs ds zs : List V} {us its ws : List Value}, Vals vs us → Vals ds its → Vals zs ws → Vals (g vs ds zs) (g us its ws))
    (h : ∀ (T : Addr) (kV doc pm : Value) (an : Option Addr) (cdv ct : Value) (us its ws : List Value), us.length = n → its.length = dvs.length → ws.length = ks.length →
      ∃ k, bindArgs (PySem.W.fnOf x qual params body scope (.ref T) kV doc pm an cdv ct) ⟨us, ks.zip ws⟩ = seqItems? (.ref T) >>= k ∧ k (some its.toArray) = pure (ps.zip (g us its ws))) :
    ∃ its : List Value, KBn K fd ps n ks (fun us ws => g us its ws) (fun vs zs => g vs dvs zs) := by
  obtain ⟨oc, od, dV, kV, doc, pm, an, cdv, ct, osl, rfl, lk, hcd, hD, hK⟩ := F.ex
  rcases hD with ⟨e, _⟩ | ⟨_, T, o, its, m, rfl, lT, oT, rT⟩
  · exact absurd e hd
  · refine ⟨its, ⟨fun s us ws X l1 l2 => ?_, fun r1 r2 => hrel r1 rT r2⟩⟩
    obtain ⟨k, e1, e2⟩ := h T kV doc pm an cdv ct us its ws l1 rT.length.symm l2
    refine BindsTo.of_looks fun M => ?_
    rw [e1]
    exact looks_items X lT oT (.of_pure e2)
/-- a def without defaults, or with keyword-only ones that are all written -/
theorem FunD.kbK (F : FunD K x qual params body scope [] kws f fd) (n : Nat) (ks : List Str) (g : {α : Type} → List α → List α → List α)
    (hrel : ∀ {vs zs : List V} {us ws : List Value}, Vals vs us → Vals zs ws → Vals (g vs zs) (g us ws))
    (h : ∀ (kV doc pm : Value) (an : Option Addr) (cdv ct : Value) (us ws : List Value), us.length = n → ws.length = ks.length →
      bindArgs (PySem.W.fnOf x qual params body scope .none kV doc pm an cdv ct) ⟨us, ks.zip ws⟩ = pure (ps.zip (g us ws))) :
    KBn K fd ps n ks (fun us ws => g us ws) (fun vs zs => g vs zs) := by
  obtain ⟨oc, od, dV, kV, doc, pm, an, cdv, ct, osl, rfl, lk, hcd, hD, hK⟩ := F.ex
  rcases hD with ⟨_, rfl⟩ | ⟨e, _⟩
  · exact ⟨fun s us ws X l1 l2 => BindsTo.of_eq (h kV doc pm an cdv ct us ws l1 l2), fun r1 r2 => hrel r1 r2⟩
  · exact absurd rfl e
/-- .. keyword-only defaults, those of ms lack -/
theorem FunD.kbM (F : FunD K x qual params body scope [] kws f fd) (n : Nat) (ks : List Str) (ms : List (Str × V)) (g : {α : Type} → List α → List α → List α → List α) (hk : kws ≠ []) (hms : ∀ q ∈ ms, q ∈ kws)
    (hrel : ∀ {vs mz zs : List V} {us mv ws : List Value}, Vals vs us → Vals mz mv → Vals zs ws → Vals (g vs mz zs) (g us mv ws))
    (h : ∀ (D : Addr) (doc pm : Value) (an : Option Addr) (cdv ct : Value) (us mv ws : List Value), us.length = n → mv.length = ms.length → ws.length = ks.length →
      KwChain D ((ms.map (·.1)).zip mv) (bindArgs (PySem.W.fnOf x qual params body scope .none (.ref D) doc pm an cdv ct) ⟨us, ks.zip ws⟩) (ps.zip (g us mv ws))) :
    ∃ mv : List Value, KBn K fd ps n ks (fun us ws => g us mv ws) (fun vs zs => g vs (ms.map (·.2)) zs) := by
  obtain ⟨oc, od, dV, kV, doc, pm, an, cdv, ct, osl, rfl, lk, hcd, hD, hK⟩ := F.ex
  rcases hD with ⟨_, rfl⟩ | ⟨e, _⟩
  · rcases hK with e | ⟨D, rfl, hq⟩
    · exact absurd e hk
    · obtain ⟨mv, hl, rk, hks⟩ := kwd_vals (ms := ms) fun q hm => hq q (hms q hm)
      exact ⟨mv, ⟨fun s us ws X l1 l2 => BindsTo.of_looks fun M => KwChain.looks X hks (h D doc pm an cdv ct us mv ws l1 hl l2), fun r1 r2 => hrel r1 rk r2⟩⟩
  · exact absurd rfl e
end
section
variable {X : Cx} {CX : CXT} {k n : Nat} {f C : Addr} {fd : FuncData} {ps ks : List Str} {sp : Sp} {dvs : List V} {ds : List Value} {E : St → XK} {x m : Str} {p pos apos : Pos} {e o : Expr} {es : List Expr} {kws : List Keyword} {ta : TE} {t tk : TA} {g : List Value → List Value → List Value} {gV : List V → List V → List V}
theorem run_fnNS {pins : List (Addr × Obj)} {σ : St} {H : Hp} {s : Shared} {Q : VK} {us ws : List Value} {vs zs : List V} (F : FnOk X.prog X.w X.K X.mg X.base CX k f fd ps sp) (hr : Room k X.A) (hb : KBn X.K fd ps n ks g gV) (hx : PassesAt CX X σ (E σ))
    (I : Inv X pins σ H s) (r : Vals vs us) (rz : Vals zs ws) (l1 : vs.length = n) (l2 : zs.length = ks.length) (h : sp (gV vs zs) H Q (E σ)) : codeAny (model X.prog X.w) X.A (.call (.ref f) ⟨us, ks.zip ws⟩) (wants (EP X pins σ Q) X.xe) s := by
  refine codeAny_mono (F.run X.A X.stack s H ⟨us, ks.zip ws⟩ (g us ws) (gV vs zs) Q (E σ) hr I.env0 (hb.to s us ws I.kIn (r.length.symm.trans l1) (rz.length.symm.trans l2)) (hb.rel r rz) h) ?_
  intro res s' hq
  match res, hq with
  | .error e, hq => exact hx pins H s e s' I hq
  | .ok (.ret u), hq => exact I.after hq
  | .ok .next, hq => exact hq.elim
  | .ok .brk, hq => exact hq.elim
  | .ok .cont, hq => exact hq.elim
def tCallNS (n m : Nat) (sp : Sp) (gV : List V → List V → List V) (E : St → XK) (t tk : TA) : TE := fun σ H Q => t σ H fun vs H1 => tk σ H1 fun zs H2 => vs.length = n ∧ zs.length = m ∧ sp (gV vs zs) H2 Q (E σ)
/-- f(e, .., k = v, ..) -/
theorem pe_callNS (F : FnOk X.prog X.w X.K X.mg X.base CX k f fd ps sp) (hr : Room k X.A) (hg : Gl X x) (hm : X.mg x = some (.ref f)) (hk : PySem.W.keepIn X.K (.ref f) = true) (hb : KBn X.K fd ps n ks g gV) (hx : ∀ σ, PassesAt CX X σ (E σ))
    (ha : PA X (e :: es) t) (hkw : PK X kws tk) (hall : (backToKw pos (keywordEach kws X.env)).all (·.1.isSome) = true := by rfl) (hks : (backToKw pos (keywordEach kws X.env)).filterMap (·.1) = ks := by rfl)
    (hdb : (x == ("__debug__" : Str)) = false := by decide) (he : starEach (e :: es) X.env = (false, eval e X.env) :: starEach es X.env := by rfl)
    (hpl : ((backTo pos (starEach (e :: es) X.env)).any (·.1) || (backToKw pos (keywordEach kws X.env)).any (·.1.isNone)) = false := by rfl) :
    PE X (.Call (.Name x p) (e :: es) kws pos) (tCallNS n ks.length sp gV E t tk) := by
  refine ⟨fun pins s σ H Q I h => ?_⟩
  refine wpAny_Call_Name_kw (ld_glob I hg hm ?_ hdb)
  refine PySem.W.callWith_KW (h₀ := X.base) I.ok.mod.kin hk hall (thn (ha.run pos pins s σ H _ I h) fun us s1 ⟨vs, H1, I1, r, q⟩ => ?_) hpl he
  refine thn (hkw.run pos pins s1 σ H1 _ I1 q) fun ws s2 ⟨zs, H2, I2, rz, l1, l2, q2⟩ => ⟨I2.kIn, ?_⟩
  rw [hks]
  exact wpAny_call (run_fnNS F hr hb (hx σ) I2 r rz l1 l2 q2)
/-- an instance called, positional -/
structure CaC (K : PySem.W.Frag) (C g : Addr) : Prop where
  m : Meth K C "__call__" g
  fi : PySem.W.fnIn K g = true
def tCaO (C : Addr) (sp : Sp) (dvs : List V) (E : St → XK) (ta : TE) (t : TA) : TE := fun σ H Q => ta σ H fun y H1 => ∃ a, y = .ref a ∧ t σ H1 fun vs H2 => ∃ dx fs, H2 a = some (.ins C dx fs) ∧ sp (.ref a :: (vs ++ dvs)) H2 Q (E σ)
theorem caO_with {M : Model} {A : Around} {E' : Value → Shared → Prop} {s : Shared} {a : Addr} {Q : Value → Shared → Prop} {args : List (Bool × Sem Value)} {kw : List (Option Str × Sem Value)} (hpl : (args.any (·.1) || kw.any (·.1.isNone)) = false)
    (h : wpAny M A (evalArgs (.ref a) true args kw) (fun z s₁ => (∃ C ox od, PySem.W.InstAt s₁.heap a ox C od ∧ ox.data = .plain) ∧ wpAny M A (call (.ref a) z.pos z.kw) Q E' s₁) E' s) : wpAny M A (callWith pos (.ref a) [] args kw) Q E' s := by
  unfold callWith
  refine wpAny_bind (wpAny_holding (wpAny_mono h ?_ fun _ _ y => y))
  rintro z s₁ ⟨⟨C, ox, od, J, hd⟩, h₁⟩
  refine wpAny_bind (wpAny_standAt ?_)
  simp only [hpl]
  refine wpAny_bind ((PySem.W.kco_keeper (M := M) J hd).here ?_)
  refine wpAny_bind (wpAny_mono (wpAny_operateT h₁) ?_ fun _ _ y => y)
  intro r s₂ hr
  exact wpAny_bind (wpAny_holding (wpAny_point (wpAny_pure hr)))
theorem pe_caO {fe : Expr} (hf : PE X fe ta) (c : CaC X.K C f) (F : FnOk X.prog X.w X.K X.mg X.base CX k f fd ps sp) (hr : Room k X.A) (hb : Binds X.K fd ps ds) (hd : Vals dvs ds) (hx : ∀ σ, PassesAt CX X σ (E σ)) (ha : PA X (e :: es) t)
    (ht : eval (.Call fe (e :: es) [] pos) X.env = (do callWith pos (← eval fe X.env) [] (backTo pos (starEach (e :: es) X.env)) (backToKw pos (keywordEach [] X.env))) := by rfl)
    (he : starEach (e :: es) X.env = (false, eval e X.env) :: starEach es X.env := by rfl) (hpl : (backTo pos (starEach es X.env)).any (·.1) = false := by rfl) : PE X (.Call fe (e :: es) [] pos) (tCaO C sp dvs E ta t) := by
  refine ⟨fun pins s σ H Q I h => ?_⟩
  refine Call_ (thn (hf.run pins s σ H _ I h) ?_) ht
  rintro u s1 ⟨y, H1, I1, ry, a, rfl, q⟩
  cases ry
  have hpl2 : ((backTo pos (starEach (e :: es) X.env)).any (·.1) || (backToKw pos (keywordEach [] X.env)).any (·.1.isNone)) = false := by
    rw [he]
    show ((false || (backTo pos (starEach es X.env)).any (·.1)) || false) = false
    rw [hpl]
    rfl
  refine caO_with hpl2 ?_
  have run := ha.run pos pins s1 σ H1 _ I1 q
  rw [he] at run ⊢
  refine PySem.Calls.evalArgs_plain (thn run ?_)
  rintro us s2 ⟨vs, H2, I2, r, dx, fs, ea, q2⟩
  obtain ⟨od, J⟩ := I2.instAt ea
  refine ⟨⟨C, _, _, J, rfl⟩, ?_⟩
  refine wpAny_call (PySem.W.kco_code I2.kIn J rfl c.m.at_ c.m.fn c.fi ?_)
  have rr : Vals (.ref a :: (vs ++ dvs)) (Value.ref a :: us ++ ds) := .cons rfl (r.append hd)
  refine codeAny_mono (F.run X.A X.stack s2 H2 ⟨Value.ref a :: us, []⟩ _ _ Q (E σ) hr I2.env0 (hb s2 (Value.ref a :: us) I2.kIn (rr.length.symm.trans (F.len _ _ _ _ q2))) rr q2) ?_
  intro res s' hq
  match res, hq with
  | .error e, hq => exact hx σ pins H2 s2 e s' I2 hq
  | .ok (.ret u), hq => exact I2.after hq
  | .ok .next, hq => exact hq.elim
  | .ok .brk, hq => exact hq.elim
  | .ok .cont, hq => exact hq.elim
/-- an instance called, with keywords -/
def tCaK (C : Addr) (n m : Nat) (sp : Sp) (gV : List V → List V → List V) (E : St → XK) (ta : TE) (t tk : TA) : TE := fun σ H Q => ta σ H fun y H1 => ∃ a, y = .ref a ∧ t σ H1 fun vs H2 => tk σ H2 fun zs H3 => ∃ dx fs, H3 a = some (.ins C dx fs) ∧ vs.length = n ∧ zs.length = m ∧ sp (gV (.ref a :: vs) zs) H3 Q (E σ)
theorem pe_caK {fe : Expr} (hf : PE X fe ta) (c : CaC X.K C f) (F : FnOk X.prog X.w X.K X.mg X.base CX k f fd ps sp) (hr : Room k X.A) (hb : KBn X.K fd ps (n + 1) ks g gV) (hx : ∀ σ, PassesAt CX X σ (E σ)) (ha : PA X (e :: es) t) (hkw : PK X kws tk)
    (ht : eval (.Call fe (e :: es) kws pos) X.env = (do callWith pos (← eval fe X.env) [] (backTo pos (starEach (e :: es) X.env)) (backToKw pos (keywordEach kws X.env))) := by rfl)
    (hall : (backToKw pos (keywordEach kws X.env)).all (·.1.isSome) = true := by rfl) (hks : (backToKw pos (keywordEach kws X.env)).filterMap (·.1) = ks := by rfl)
    (he : starEach (e :: es) X.env = (false, eval e X.env) :: starEach es X.env := by rfl) (hpl : ((backTo pos (starEach (e :: es) X.env)).any (·.1) || (backToKw pos (keywordEach kws X.env)).any (·.1.isNone)) = false := by rfl) : PE X (.Call fe (e :: es) kws pos) (tCaK C n ks.length sp gV E ta t tk) := by
  refine ⟨fun pins s σ H Q I h => ?_⟩
  rw [ht]
  refine wpAny_bind (thn (hf.run pins s σ H _ I h) ?_)
  rintro u s1 ⟨y, H1, I1, ry, a, rfl, q⟩
  cases ry
  refine caO_with hpl ?_
  refine evalArgs_kw2 hall (thn (ha.run pos pins s1 σ H1 _ I1 q) ?_) he
  rintro us s2 ⟨vs, H2, I2, r, q2⟩
  refine thn (hkw.run pos pins s2 σ H2 _ I2 q2) ?_
  rintro ws s3 ⟨zs, H3, I3, rz, dx, fs, ea, l1, l2, q3⟩
  obtain ⟨od, J⟩ := I3.instAt ea
  refine ⟨⟨C, _, _, J, rfl⟩, ?_⟩
  rw [hks]
  refine wpAny_call (PySem.W.kco_code I3.kIn J rfl c.m.at_ c.m.fn c.fi ?_)
  exact run_fnNS (us := Value.ref a :: us) (vs := .ref a :: vs) F hr hb (hx σ) I3 (.cons rfl r) rz (by rw [List.length_cons, l1]) l2 q3
end
end L2

/-! a law's end where the defs' world of exceptions hangs on the program -/
namespace Rz
open PySem PySem.Spec PyProof.Rows L2
variable {l : PySem.W.OpenLaw} {n k : Nat} {q : Program} {loose : List Str} {XP : (Str → Option Value) → Heap → Prop} {YP : World → Heap → Prop} {d : DefRec} {x : Str}
/-- what the end asks of the head's facts -/
def Given (l : PySem.W.OpenLaw) (n k : Nat) (x : Str) (w : World) (mg : Str → Option Value) (fa : Addr) (h : Heap) : Prop :=
  ∃ (K : PySem.W.Frag) (fd : FuncData) (sp : Sp), K.In h ∧ (∀ (s : Shared) (u : Value), BindsTo s fd ⟨[u], []⟩ [(x, u)]) ∧
    (∀ (H : Hp) (a : Addr) (ns : List Int), ns.length ≤ n → SqL K H a (ns.map V.int) → sp [.ref a] H (fun v _ => v = .bl true) fun _ _ _ => False) ∧
    ∀ base : Heap, K.In base → base.Ns mainGlobals mg → FnOk l.prog w K mg base (L2.CX l.prog w) k fa fd [x] sp
theorem endX (hn : l.most = some n) (hn2 : n ≤ sizeLine) (hdf : d.params.defaults = []) (hr : Room k callerA)
    (F : ∀ (w : World) (mg : Str → Option Value) (fa : Addr) (h : Heap), YP w h → h.Ns mainGlobals mg → mg d.name = some (.ref fa) → Given l n k x w mg fa h) :
    PySem.W.WalkO q loose XP YP l.row.toRowW d [] (fun f vs => PySem.call f vs) := by
  refine Att.attach_call hn hdf ?_
  intro w s₀ s₁ mg mb fa o pm cd doc a vs ns G Y ho hd hcd hmg hobj hints hlen hg
  have T := G.T
  obtain ⟨K, fd, sp, KX, hb, hsp, hF⟩ := F w mg fa _ Y T.g hmg
  refine law_call KX T.g T.b T.builtins T.nolimit hg hobj hints (Nat.le_trans hlen hn2) hr hF hb ?_ ?_
  · exact fun H _ hS => hsp H a ns hlen hS
  · rintro H e s' ⟨_, _, _, _, _, _, _, _, _, _, _, _, z⟩
    exact z
/-- one function object stands at an address -/
theorem fd_one {K : PySem.W.Frag} {y qual y2 qual2 : Str} {ps ps2 : Arguments} {body body2 : List Stmt} {sc sc2 : Scope} {dv dv2 : List V} {kw kw2 : List (Str × V)} {f : Addr} {fd fd2 : FuncData}
    (a : FunD K y qual ps body sc dv kw f fd) (b : FunD K y2 qual2 ps2 body2 sc2 dv2 kw2 f fd2) : fd = fd2 := by
  obtain ⟨_, _, _, _, _, _, _, _, _, _, _, la, _⟩ := a.ex
  obtain ⟨_, _, _, _, _, _, _, _, _, _, _, lb, _⟩ := b.ex
  have e := Option.some.inj (la.symm.trans lb)
  cases e
  rfl
end Rz

/-! The top's run, looked at in parts: each part is a theorem of its own, so that the kernel's memory serves a larger top. -/
namespace Rz
open PySem PySem.Spec PySem.W PyProof.Rows L2 He HandSHeadRun
section
variable {r : OpenRow} {q : Program} {M n : Nat} {loose : List PySem.Str} {w : World} {fa fb : List (Fg → Bool)} {fn gn : List Dq}
/-- the state behind the top -/
noncomputable abbrev endS (r : OpenRow) (M : Nat) (w : World) (os : OsState) : Option SharedT := endF (stepQ (denQ tabQ) r.prog w) M r.prog w os
def LkEq (r : OpenRow) (M : Nat) (w : World) : Prop := ∀ os : OsState, (endS r M w os).map (fun s => looksF r.prog (boot_heap w.params) s.abs) = some true
def SnEq (r : OpenRow) (q : Program) (M : Nat) (loose : List PySem.Str) (w : World) : Prop := ∀ os : OsState, (endS r M w os).map (fun s => seenQ q loose (importedModules r.prog.main.body) (fun s => xlAt q [] s && recOk r.toRowW.records s) s.abs) = some (openGood q loose)
def ObEq (r : OpenRow) (M n : Nat) (fa : List (Fg → Bool)) (fn : List Dq) (w : World) : Prop := ∀ os : OsState, (endS r M w os).map (fun s => obsRG n fa fn (getT s)) = some (valR fn)
theorem obsR_app {K : Fg} (h1 : obsR fa fn K = valR fn) (h2 : obsR fb gn K = valR gn) : obsR (fa ++ fb) (fn ++ gn) K = valR (fn ++ gn) := by
  have a1 := ba (show ((fa.all fun f => f K) && fn.all fun d => d.ok K) = true from congrArg Prod.fst h1)
  have a2 := ba (show ((fb.all fun f => f K) && gn.all fun d => d.ok K) = true from congrArg Prod.fst h2)
  have b1 : fn.map (fun d => fnQ K (d.at_ K)) = fn.map Dq.val := congrArg Prod.snd h1
  have b2 : gn.map (fun d => fnQ K (d.at_ K)) = gn.map Dq.val := congrArg Prod.snd h2
  unfold obsR valR
  rw [List.all_append, List.all_append, a1.1, a1.2, a2.1, a2.2, List.map_append, List.map_append, b1, b2]
  rfl
/-- the look with its value written out: `List.map` on both sides would make the kernel compare the two functions first, at a great cost -/
def ObEqV (r : OpenRow) (M n : Nat) (fa : List (Fg → Bool)) (fn : List Dq) (v : AlR) (w : World) : Prop := ∀ os : OsState, (endS r M w os).map (fun s => obsRG n fa fn (getT s)) = some v
theorem ObEqV.to {v : AlR} (h : ObEqV r M n fa fn v w) (e : v = valR fn) : ObEq r M n fa fn w := by subst e; exact h
theorem some_of {α β : Type} {o : Option α} {f : α → β} {b : β} (h : o.map f = some b) : ∃ s, o = some s ∧ f s = b := Option.map_eq_some_iff.mp h
theorem ObEq.app (a : ObEq r M n fa fn w) (b : ObEq r M n fb gn w) : ObEq r M n (fa ++ fb) (fn ++ gn) w := fun os => by
  obtain ⟨s, e, h⟩ := some_of (a os)
  obtain ⟨s2, e2, h2⟩ := some_of (b os)
  rw [e] at e2
  cases e2
  rw [e]
  exact congrArg some (obsR_app h h2)
theorem run_all (l : LkEq r M w) (c : SnEq r q M loose w) (o : ObEq r M n fa fn w) : RunEq r q (hookR n fa fn) (fun s => obsRG n fa fn (getT s)) M loose w := fun os => by
  obtain ⟨s, e, h⟩ := some_of (l os)
  obtain ⟨s2, e2, h2⟩ := some_of (c os)
  obtain ⟨s3, e3, h3⟩ := some_of (o os)
  rw [e] at e2 e3
  cases e2
  cases e3
  show (endS r M w os).map _ = _
  rw [e]
  exact congrArg some (Prod.ext h (Prod.ext h2 h3))
end
end Rz

/-! Defs with a star parameter, classmethods, calls with a starred list. -/
namespace L2
open PySem PySem.Spec PyProof.Rows StX ClX
/-- a def with n parameters and a star parameter behind them, called by positional values -/
def spStar (n : Nat) (sp : Sp) : Sp := fun vs H Q E => ∃ ws rest, vs = ws ++ rest ∧ ws.length = n ∧ rest.length ≤ sizeLine ∧ ∀ p, H p = none → sp (ws ++ [.ref p]) (upd H p (.tup rest)) Q E
section
variable {P : Program} {w : World} {mg : Str → Option Value} {base : Heap} {K : PySem.W.Frag} {x qual : Str} {params : Arguments} {body : List Stmt} {scope : Scope} {f : Addr} {fd : FuncData} {ps : List Str}
theorem FunD.okStar {CX : CXT} {N : List Str} {pv : Str} {k : Nat} {sp : Sp} (F : FunD K x qual params body scope [] [] f fd) (S : FnScope N (ps ++ [pv]) scope) (hCX : CXUp CX)
    (hb : ∀ (kV doc pm : Value) (an : Option Addr) (cdv ct : Value) (us rest : List Value), us.length = ps.length → bindArgs (PySem.W.fnOf x qual params body scope .none kV doc pm an cdv ct) ⟨us ++ rest, []⟩ = (newTuple rest >>= fun t => pure (ps.zip us ++ [(pv, t)])))
    (hbody : ∀ (cdv : Value) (A : Around) (outer : List Env) (s : Shared) (H : Hp) (vs : List V) (Q : VK) (E : XK), Room k (A.deeper (envOfC qual scope s.heap.objs.size f cdv)) → sp vs H Q E →
      ∃ t, PSs (cxOf CX P w K mg base N qual scope f cdv A outer s H E) body t ∧ t { nx := fun _ H' => Q .non H', rt := Q } (start N vs) H) : FnR P w K mg base CX (k + 1) f (spStar ps.length sp) := by
  obtain ⟨oc, od, dV, kV, doc, pm, an, cdv, ct, osl, rfl, lk, hcd, hD, _⟩ := F.ex
  rcases hD with ⟨_, rfl⟩ | ⟨e, _⟩
  · exact fn_star lk hcd S hCX (hb kV doc pm an cdv ct) fun A outer s H vs Q E hr hsp => hbody cdv A outer s H vs Q E hr hsp
  · exact absurd rfl e
end
section
variable {X : Cx} {CX : CXT} {k : Nat} {f C g p : Addr} {mc : Value} {sp : Sp} {E : St → XK} {x m : Str} {np pos apos sp_ : Pos} {e o fe : Expr} {es : List Expr} {ta te : TE} {t : TA}
theorem run_fnRS {pins : List (Addr × Obj)} {σ : St} {H : Hp} {s : Shared} {Q : VK} {us : List Value} {vs : List V} (F : FnR X.prog X.w X.K X.mg X.base CX k f sp) (hr : Room k X.A) (hx : PassesAt CX X σ (E σ)) (I : Inv X pins σ H s) (r : Vals vs us) (h : sp vs H Q (E σ)) :
    codeAny (model X.prog X.w) X.A (.call (.ref f) ⟨us, []⟩) (fun r s' => match r with | .ok (.ret v) => EP X pins σ Q v s' | .ok _ => False | .error e => X.xe e s') s := by
  refine codeAny_mono (F X.A X.stack s H us vs Q (E σ) hr I.env0 r h) fun r s' hq => ?_
  match r, hq with
  | .error e, hq => exact hx pins H s e s' I hq
  | .ok (.ret u), hq => exact I.after hq
  | .ok .next, hq => exact hq.elim
  | .ok .brk, hq => exact hq.elim
  | .ok .cont, hq => exact hq.elim
theorem run_makeRS {pins : List (Addr × Obj)} {σ : St} {H : Hp} {s : Shared} {Q : VK} {us : List Value} {vs : List V} (M : Mk X.K C f) (F : FnR X.prog X.w X.K X.mg X.base CX k f sp) (hr : Room (k + 1) X.A) (hx : PassesAt CX X σ (E σ)) (I : Inv X pins σ H s) (r : Vals vs us)
    (h : ∀ y dx, H y = none → H dx = none → dx ≠ y → sp (.ref y :: (vs ++ [])) (upd (upd H dx (.own y)) y (.ins C dx [])) (fun v H2 => v = .non ∧ Q (.ref y) H2) (E σ)) :
    wpAny (model X.prog X.w) X.A (call (.ref C) us) (EP X pins σ Q) X.xe s := by
  have hq := h (s.heap.objs.size + 1) s.heap.objs.size (I.hok.fresh (Nat.le_succ _)) (I.hok.fresh (Nat.le_refl _)) (Nat.ne_of_lt (Nat.lt_succ_self _))
  rw [List.append_nil] at hq
  have I2 := Inv.made (C := C) I
  have r2 : Vals (V.ref (s.heap.objs.size + 1) :: vs) (Value.ref (s.heap.objs.size + 1) :: us) := .cons rfl r
  refine wpAny_call (make_map (f := f) I.kIn M.makes M.init (beq_iff_eq.mp M.fn) (codeAny_mono (F _ X.stack _ _ (Value.ref (s.heap.objs.size + 1) :: us) _ _ (E σ) (hr.make C us []) (I2.env0.make C us []) r2 hq) fun r s' hq' => ?_))
  match r, hq' with
  | .error e, hq' => exact hx pins _ _ e s' I2 hq'
  | .ok (.ret u), hq' =>
    obtain ⟨v, H', I3, rv, ev, q3⟩ := I2.after hq'
    subst ev
    exact ⟨rv, ⟨V.ref (s.heap.objs.size + 1), H', I3, rfl, q3⟩⟩
  | .ok .next, hq' => exact hq'.elim
  | .ok .brk, hq' => exact hq'.elim
  | .ok .cont, hq' => exact hq'.elim
/-- C(e, ..), __init__ with a star parameter -/
theorem pe_makeRS (M : Mk X.K C f) (F : FnR X.prog X.w X.K X.mg X.base CX k f sp) (hr : Room (k + 1) X.A) (hg : Gl X x) (hm : X.mg x = some (.ref C)) (hx : ∀ σ, PassesAt CX X σ (E σ))
    (ha : PA X (e :: es) t) (hdb : (x == ("__debug__" : Str)) = false := by decide) (he : starEach (e :: es) X.env = (false, eval e X.env) :: starEach es X.env := by rfl) (hpl : (backTo pos (starEach es X.env)).any (·.1) = false := by rfl) :
    PE X (.Call (.Name x np) (e :: es) [] pos) (tMakeS C sp [] E t) := by
  constructor
  intro pins s σ H Q I h
  refine wpAny_Call_Name_kw (ld_glob I hg hm (PySem.W.callWith_K (h₀ := X.base) I.ok.mod.kin M.kp (thn (ha.run pos pins s σ H _ I h) ?_) he hpl) hdb)
  rintro us s1 ⟨vs, H1, I1, r, q⟩
  exact ⟨I1.kIn, run_makeRS M F hr (hx σ) I1 r q⟩
theorem pe_make0RS (M : Mk X.K C f) (F : FnR X.prog X.w X.K X.mg X.base CX k f sp) (hr : Room (k + 1) X.A) (hg : Gl X x) (hm : X.mg x = some (.ref C)) (hx : ∀ σ, PassesAt CX X σ (E σ))
    (hdb : (x == ("__debug__" : Str)) = false := by decide) : PE X (.Call (.Name x np) [] [] pos) (tMakeS C sp [] E tNil) :=
  ⟨fun _ _ σ _ _ I h => wpAny_Call_Name_kw (ld_glob I hg hm (PySem.W.callWith_K0 I.kIn M.kp (run_makeRS (us := []) M F hr (hx σ) I .nil h)) hdb)⟩
/-- cls(*xs), cls a variable that holds the class at C -/
def tMakeSt (K : PySem.W.Frag) (C : Addr) (sp : Sp) (E : St → XK) (ta te : TE) : TE := fun σ H Q => ta σ H fun y H1 => y = .ref C ∧ te σ H1 fun z H2 => ∃ a xs, z = .ref a ∧ (SqT K H2 a xs ∨ SqL K H2 a xs) ∧ tMakeS C sp [] E (fun _ H' Q' => Q' xs H') σ H2 Q
theorem pe_makeSt (hf : PE X fe ta) (M : Mk X.K C f) (F : FnR X.prog X.w X.K X.mg X.base CX k f sp) (hr : Room (k + 1) X.A) (hx : ∀ σ, PassesAt CX X σ (E σ)) (he : PE X e te)
    (ht : eval (.Call fe [.Starred e sp_] [] pos) X.env = (do callWith pos (← eval fe X.env) [] (backTo pos (starEach [.Starred e sp_] X.env)) (backToKw pos (keywordEach [] X.env))) := by rfl)
    (hst : starEach [.Starred e sp_] X.env = [(true, eval e X.env)] := by rfl) : PE X (.Call fe [.Starred e sp_] [] pos) (tMakeSt X.K C sp E ta te) := by
  refine ⟨fun pins s σ H Q I h => ?_⟩
  refine Call_ (thn (hf.run pins s σ H _ I h) ?_) ht
  rintro u s1 ⟨y, H1, I1, ry, rfl, q⟩
  cases ry
  refine PySem.W.callWith_S (h₀ := X.base) I1.ok.mod.kin M.kp (thn (he.run pins s1 σ H1 _ I1 q) ?_) hst
  rintro v s2 ⟨z, H2, I2, rz, a, xs, rfl, hxs, q2⟩
  cases rz
  exact star_any I2 hxs fun us s3 I3 rv => ⟨I3.kIn, run_makeRS M F hr (hx σ) I3 rv q2⟩
/-- C.m(e, ..), m a classmethod -/
def tCMS (C : Addr) (sp : Sp) (E : St → XK) (ta : TE) (t : TA) : TE := fun σ H Q => ta σ H fun x H1 => x = .ref C ∧ t σ H1 fun vs H2 => sp (.ref C :: vs) H2 Q (E σ)
theorem run_cmS {pins : List (Addr × Obj)} {σ : St} {H : Hp} {s : Shared} {q : Addr} {Q : VK} {us : List Value} {vs : List V} (F : FnR X.prog X.w X.K X.mg X.base CX k g sp) (hr : Room k X.A) (hx : PassesAt CX X σ (E σ)) (I : Inv X ((q, PySem.W.methodObj (.ref g) (.ref C)) :: pins) σ H s)
    (r : Vals vs us) (h : sp (.ref C :: vs) H Q (E σ)) : wpAny (model X.prog X.w) X.A (call (.ref q) us) (EP X pins σ Q) X.xe s := by
  have z : wpAny (model X.prog X.w) X.A (call (.ref q) us) (EP X ((q, PySem.W.methodObj (.ref g) (.ref C)) :: pins) σ Q) X.xe s :=
    wpAny_call (PySem.W.method_call (ClX.pin_at I) (run_fnRS (us := .ref C :: us) (vs := .ref C :: vs) F hr hx I (.cons rfl r) h))
  exact thn z fun _ _ y => ClX.unpinE y
theorem _root_.L2.FnOk.rawN {P : Program} {w : World} {K : PySem.W.Frag} {mg : Str → Option Value} {base : Heap} {fd : FuncData} {ps : List Str} (F : FnOk P w K mg base CX k f fd ps sp) (hb : Binds K fd ps []) : FnR P w K mg base CX k f sp :=
  (F.raw hb .nil).imp fun vs H Q E h => by rw [List.append_nil]; exact h
/-- what of the text a class and a classmethod of it must have -/
def CmC (K : PySem.W.Frag) (C : Addr) (m : Str) (p g : Addr) : Prop := ∃ mc, ClX.CRead K C mc ∧ ClX.CMet K C mc m p g
theorem pe_cmS {pl : Sem Bool} (he : PE X o ta) (c : CmC X.K C m p g) (F : FnR X.prog X.w X.K X.mg X.base CX k g sp) (hr : Room k X.A) (hx : ∀ σ, PassesAt CX X σ (E σ)) (ha : PA X (e :: es) t)
    (hst : starEach (e :: es) X.env = (false, eval e X.env) :: starEach es X.env := by rfl) (hpl : (backTo pos (starEach es X.env)).any (·.1) = false := by rfl)
    (ht : eval (.Call (.Attribute o m apos) (e :: es) [] pos) X.env = (do
      let ov ← eval o X.env
      standAt apos.atName
      let (f, first) ← holding [ov] (getMethod ov m pl)
      callWith pos f first (backTo pos (starEach (e :: es) X.env)) (backToKw pos (keywordEach [] X.env))) := by rfl) :
    PE X (.Call (.Attribute o m apos) (e :: es) [] pos) (tCMS C sp E ta t) := by
  obtain ⟨mc, r, c⟩ := c
  refine ⟨fun pins s σ H Q I h => ?_⟩
  refine PySem.W.methodCall_KW (pl := pl) (thn (he.run pins s σ H _ I h) fun u s1 ⟨x, H1, I1, rx, ex, q⟩ => ?_) ht
  subst ex
  obtain rfl : u = Value.ref C := rx
  refine ClX.getmethcm_ok I1 r c fun s2 I2 => ?_
  refine ClX.callwith_cm I2 (base_none I1 (Nat.le_refl _)) c.fi (thn (ha.run pos _ s2 σ H1 _ I2 q) fun us s3 ⟨vs, H2, I3, rv, q2⟩ => ⟨⟨ClX.pin_at I3, I3.kIn⟩, ?_⟩) hst hpl
  exact run_cmS F hr (hx σ) I3 rv q2
end
end L2
namespace Rz
open PySem PySem.Spec PyProof.Rows L2 He
def cmB (C m : Str) : Fg → Bool := fun K => PySem.W.readsIn K (ga K C) (.type "type") && (eqO (PySem.W.specialIn K (.ref (ga K C)) "__getattribute__") (some (some (.builtin "type.__getattribute__"))) &&
  ((match PySem.W.findCls K (.ref (ga K C)) (.type "type") m with
    | some (.get a b c d) => decide (a = .builtin "classmethod.__get__") && (decide (b = .ref (recAt C m K)) && (decide (c = .none) && decide (d = .ref (ga K C))))
    | _ => false) && (firstB "classmethod" (recAt C m K) K && PySem.W.fnIn K (pC C m K))))
theorem cmB_ok {C m : Str} {K : Fg} (h : cmB C m K = true) : CmC K (ga K C) m (recAt C m K) (pC C m K) := by
  obtain ⟨h1, h⟩ := ba h
  obtain ⟨h2, h⟩ := ba h
  obtain ⟨h3, h⟩ := ba h
  obtain ⟨h4, h5⟩ := ba h
  refine ⟨.type "type", ⟨h1, eqO_ok h2⟩, ⟨?_, firstB_ok h4, h5⟩⟩
  cases e : PySem.W.findCls K (.ref (ga K C)) (.type "type") m with
  | none => rw [e] at h3; cases h3
  | some r =>
    rw [e] at h3
    cases r with
    | get a b c d =>
      obtain ⟨a1, h3⟩ := ba h3
      obtain ⟨a2, h3⟩ := ba h3
      obtain ⟨a3, a4⟩ := ba h3
      rw [of_decide_eq_true a1, of_decide_eq_true a2, of_decide_eq_true a3, of_decide_eq_true a4]
    | _ => cases h3
end Rz

/-! cls(e, ..): an instance made through a variable that holds the class -/
namespace L2
open PySem PySem.Spec PyProof.Rows
section
variable {X : Cx} {CX : CXT} {k : Nat} {f C : Addr} {sp : Sp} {E : St → XK} {fd : FuncData} {ps : List Str} {ds : List Value} {dvs : List V} {pos : Pos} {e fe : Expr} {es : List Expr} {ta : TE} {t : TA}
/-- cls(e, ..) -/
def tMakeV (C : Addr) (sp : Sp) (dvs : List V) (E : St → XK) (ta : TE) (t : TA) : TE := fun σ H Q => ta σ H fun y H1 => y = .ref C ∧ tMakeS C sp dvs E t σ H1 Q
theorem pe_makeV (hf : PE X fe ta) (M : Mk X.K C f) (F : FnOk X.prog X.w X.K X.mg X.base CX k f fd ps sp) (hr : Room (k + 1) X.A) (hb : Binds X.K fd ps ds) (hd : Vals dvs ds) (hx : ∀ σ, PassesAt CX X σ (E σ)) (ha : PA X (e :: es) t)
    (ht : eval (.Call fe (e :: es) [] pos) X.env = (do callWith pos (← eval fe X.env) [] (backTo pos (starEach (e :: es) X.env)) (backToKw pos (keywordEach [] X.env))) := by rfl)
    (he : starEach (e :: es) X.env = (false, eval e X.env) :: starEach es X.env := by rfl) (hpl : (backTo pos (starEach es X.env)).any (·.1) = false := by rfl) : PE X (.Call fe (e :: es) [] pos) (tMakeV C sp dvs E ta t) := by
  refine ⟨fun pins s σ H Q I h => ?_⟩
  refine Call_ (thn (hf.run pins s σ H _ I h) ?_) ht
  rintro u s1 ⟨y, H1, I1, ry, rfl, q⟩
  cases ry
  refine PySem.W.callWith_K (h₀ := X.base) I1.ok.mod.kin M.kp (thn (ha.run pos pins s1 σ H1 _ I1 q) ?_) he hpl
  rintro us s2 ⟨vs, H2, I2, r, q2⟩
  exact ⟨I2.kIn, run_makeS M F hr hb hd (hx σ) I2 r q2⟩
end
end L2

/-! split; x op= y by an own method that may raise; a walk over an instance whose __iter__ gives a list's iterator. -/
namespace L2
open PySem PySem.Spec PyProof.Rows
/-- a statement that is never reached -/
def tDeadS : TS := fun _ _ _ => False
theorem ps_deadS {X : Cx} {st : Stmt} : PS X st tDeadS := ⟨fun _ _ _ _ _ _ h => False.elim h⟩
/-- x.split(sep) -/
def rSplitS : V → List V → Hp → VK → Prop := fun x xs H Q => ∃ a b, x = .str a ∧ xs = [.str b] ∧ (b.length == 0) = false ∧ a.length + 2 ≤ sizeLine ∧ rNewStrs (Txt.split a b) H Q
def tSplit (to te : TE) : TE := tM1 rSplitS to te
theorem pe_splitS {X : Cx} {o e : Expr} {to te : TE} {apos pos : Pos} (ho : PE X o to) (he : PE X e te) (hs : starEach [e] X.env = [(false, eval e X.env)] := by rfl)
    (hbase : attributeBase o "split" X.env (eval o X.env) = eval o X.env := by rfl) (hline : (apos.endLine == pos.line) = true := by rfl) : PE X (.Call (.Attribute o "split" apos) [e] [] pos) (tSplit to te) :=
  pe_m1 PySem.F.slot_str_split PySem.F.type_str_split mt_split ho he hs hbase hline
section
variable {X : Cx} {CX : CXT} {k : Nat} {f C : Addr} {fd : FuncData} {ps : List Str} {sp : Sp}
/-- x op= e, x a variable that holds an instance with its own method -/
def tAugO (i : Nat) (te : TE) (C : Addr) (sp : Sp) (E : St → XK) : TS := fun D σ H => ∃ x, σ[i]? = some (some x) ∧ te σ H fun y H1 => rIpO C sp (E σ) x y H1 fun z H2 => D.nx (σ.set i (some z)) H2
theorem ps_augO {i : Nat} {x : Str} {e : Expr} {te : TE} {op : Operator} {E : St → XK} {pos' pos : Pos} (hN : X.N.Nodup) (hi : X.N[i]? = some x) (hx : Loc X.env.scope x) (he : PE X e te)
    (m : Meth X.K C (PySem.dunderI op.info.2) f) (c : OpC X.K C) (F : FnOk X.prog X.w X.K X.mg X.base CX k f fd ps sp) (hr : Room k X.A) (hb : Binds X.K fd ps []) (hE : ∀ σ, PassesAt CX X σ (E σ))
    (hf : X.fn x = true ∨ X.env.scope.names.lookup x = some .local := by first | exact .inl rfl | exact .inr rfl | assumption) :
    PS X (.AugAssign (.Name x pos') op e pos) (tAugO i te C sp E) := by
  refine ⟨fun pins s σ H D I h => ?_⟩
  obtain ⟨v, e1, h⟩ := h
  obtain ⟨m0, hn, hl⟩ := I.loc
  have vis : Vis X.env.scope x := by rcases hx with k | k; exact .inl k; exact .inr (.inl k)
  obtain ⟨u, r, l⟩ := hl i x v hi e1 vis
  refine wpAny_AugAssign_Name ?_
  have go : wpAny (model X.prog X.w) X.A (eval e X.env) (fun w s₂ => wpAny (model X.prog X.w) X.A (inplaceOp op u w) (fun r s₃ => wpAny (model X.prog X.w) X.A (storeName X.env x r) (fun _ => SP X pins D .next) X.xe s₃) X.xe s₂) X.xe s := by
    refine thn (he.run pins s σ H _ I h) fun w s1 ⟨y, H1, I1, r1, q1⟩ => ?_
    have key : wpAny (model X.prog X.w) X.A (inplaceOp op u w) (EP X pins σ (fun z H2 => D.nx (σ.set i (some z)) H2)) X.xe s1 := by
      obtain ⟨a, dx, fs, rfl, ea, q⟩ := q1
      cases r
      obtain ⟨od, J⟩ := I1.instAt ea
      obtain ⟨m1, hF⟩ := I1.fr
      exact PySem.W.ksp_inplace hF I1.ok.mod.kin J c.first m.at_ m.fn (thn (run_two F hr rfl hb (hE σ) I1 r1 q) fun _ _ z => z.back)
    refine thn key fun z s2 ⟨zv, H2, I2, r2, q2⟩ => ?_
    exact store_ok I2 hN hi hx r2 (fun s3 I3 => ⟨_, H2, I3, q2⟩) hf
  rcases l with ⟨hk, hm⟩ | ⟨hk, c, hc, hcell⟩
  · exact wpAny_loadName_local I.ok.kind hk hn hm go
  · rcases hk with hk | hk
    · exact wpAny_loadName_cell I.ok.kind hk hc hcell go
    · rcases hx with k | k
      · have : X.env.scope.names.lookup x = some .free := hk
        rw [k] at this; cases this
      · have : X.env.scope.names.lookup x = some .free := hk
        rw [k] at this; cases this
def ipMul : TIp := fun x y H Q => ∃ i j, x = .int i ∧ y = .int j ∧ CMul i j ∧ Q (.int (i * j)) H
theorem ip_mul : PIp X .Mult ipMul := by
  intro pins s σ H x y v u Q I r1 r2 h
  obtain ⟨i, j, e1, e2, hc, q⟩ := h
  subst e1; subst e2
  obtain ⟨t, rfl⟩ := r1
  obtain ⟨t', rfl⟩ := r2
  exact imul_int ⟨.int _, H, I.tok _, ⟨_, rfl⟩, q⟩ hc.ok
def rSumA (K : PySem.W.Frag) : List V → Hp → VK → Prop := rSum K
theorem c_sum (hc : X.calm = true) : CallR X (.builtin "sum") (rSumA X.K) := cr_sum hc
/-! ### an object that is no longer spoken of -/
def dropH (H : Hp) (it : Addr) : Hp := fun b => if b = it then none else H b
theorem dropH_at {H : Hp} {it : Addr} : dropH H it it = none := if_pos rfl
theorem dropH_ne {H : Hp} {it b : Addr} (h : b ≠ it) : dropH H it b = H b := if_neg h
theorem dropH_none {H : Hp} {it b : Addr} (h : H b = none) : dropH H it b = none := by unfold dropH; split <;> trivial
theorem dropH_upd {H : Hp} {it : Addr} {o : HO} (h : H it = none) : dropH (upd H it o) it = H := by
  funext b
  unfold dropH
  by_cases e : b = it
  · rw [if_pos e, e, h]
  · rw [if_neg e, upd_ne e]
theorem dropH_some {H : Hp} {it b : Addr} {o : HO} {φ : Heap → Prop} (ei : H it = some (.ext φ)) (e : H b = some o) (n : ∀ ψ, o ≠ .ext ψ) : dropH H it b = some o := by
  rw [dropH_ne (fun z => by rw [z, ei] at e; exact n φ (Option.some.inj e).symm)]
  exact e
theorem objOk_drop {P : Program} {w : World} {H : Hp} {h : Heap} {it b : Addr} {φ : Heap → Prop} (ei : H it = some (.ext φ)) : ∀ o : HO, ObjOk P w H h b o → ObjOk P w (dropH H it) h b o
  | .lst _, x => x
  | .tup _, x => x
  | .dK _, x => x
  | .dT _, ⟨a, c, xs, p, r⟩ => ⟨a, c, xs, Paired.mono (fun _ _ ⟨h1, h2, h3⟩ => ⟨h1, dropH_some ei h2 (fun _ z => nomatch z), h3⟩) p, r⟩
  | .set _ _, x => x
  | .ins _ _ _, ⟨a, r⟩ => ⟨dropH_some ei a (fun _ z => nomatch z), r⟩
  | .own _, x => x
  | .xd _, x => x
  | .met _ _, x => x
  | .rng _ _, x => x
  | .frz _ u, ⟨a, r⟩ => ⟨a, objOk_drop ei u r⟩
  | .tbl _, x => x
  | .ext _, x => x
variable {pins : List (Addr × Obj)} {σ : St} {H : Hp} {s : Shared}
theorem Inv.dropped {it : Addr} {φ : Heap → Prop} (I : Inv X pins σ H s) (ei : H it = some (.ext φ)) : Inv X pins σ (dropH H it) s where
  ok := I.ok
  os := I.os
  bare := I.bare
  base := ⟨I.base.keep, I.base.slot, fun b o q n hx => dropH_none (I.base.free b o q n hx), I.base.there, fun b xs q => dropH_some ei (I.base.tups b xs q) (fun _ z => nomatch z), fun b o u q => dropH_some ei (I.base.frzs b o u q) (fun _ z => nomatch z),
    fun b ps q => let ⟨m, e⟩ := I.base.tbls b ps q; ⟨m, dropH_some ei e (fun _ z => nomatch z)⟩⟩
  loc := I.loc
  cell := I.cell
  free := dropH_none I.free
  freeC := fun x c e => dropH_none (I.freeC x c e)
  pin := fun p hp => let ⟨a, b, c⟩ := I.pin p hp; ⟨a, dropH_none b, c⟩
  hok := fun b o e => by
    by_cases z : b = it
    · rw [z, dropH_at] at e; cases e
    · rw [dropH_ne z] at e
      exact objOk_drop ei o (I.hok b o e)
  len := I.len
/-- a def of one argument runs within a built-in; what it puts where nothing was known is new -/
theorem run_oneN {A' : Around} {a : Addr} {Q : VK} {E : XK} (F : FnOk X.prog X.w X.K X.mg X.base CX k f fd ps sp) (hr : Room k A') (hfr : A'.frames = X.A.frames) (hb : Binds X.K fd ps []) (hx : PassesAt CX X σ E) (I : Inv X pins σ H s) (h : sp [.ref a] H Q E) :
    wpAny (model X.prog X.w) A' (call (.ref f) [.ref a]) (EP X pins σ fun v H' => (∀ b, H b = none → H' b ≠ none → s.heap.get? b = none) ∧ Q v H') X.xe s := by
  have e0 := I.env0
  have e1 : Env0 X.prog X.w X.K X.mg X.base A' X.stack s H := ⟨hfr.trans e0.frames, e0.mod, e0.bs, e0.bsz, e0.funs, e0.frf, e0.hok, e0.bare⟩
  have rr : Vals [V.ref a] [Value.ref a] := .cons rfl .nil
  refine wpAny_call (codeAny_mono (F.run A' X.stack s H ⟨[.ref a], []⟩ [.ref a] [.ref a] Q E hr e1 (by simpa using hb s [.ref a] I.kIn (by have := F.len _ _ _ _ h; simpa using this)) rr h) ?_)
  intro res s' hq
  match res, hq with
  | .error e, hq => exact hx pins H s e s' I hq
  | .ok (.ret u), hq =>
    obtain ⟨v, H', os, bare, un, hok, r, q⟩ := hq
    refine I.after ⟨v, H', os, bare, un, hok, r, fun b n1 n2 => ?_, q⟩
    cases e : s.heap.get? b with
    | none => rfl
    | some o => exact absurd (un.free b o e n1 (by simp)) n2
  | .ok .next, hq => exact hq.elim
  | .ok .brk, hq => exact hq.elim
  | .ok .cont, hq => exact hq.elim
end
/-! ### the addresses that were freed when the frame began -/
def freed (h : Heap) : List Addr := (List.range h.objs.size).filter fun b => (h.get? b).isNone
theorem mem_freed {h : Heap} {b : Addr} : b ∈ freed h ↔ b < h.objs.size ∧ h.get? b = none := by
  unfold freed
  rw [List.mem_filter, List.mem_range, Option.isNone_iff_eq_none]

/-- .. those that are no cell of the frame's -/
noncomputable def younger (X : Cx) : List Addr := (freed X.s_0.heap).filter fun b => @decide (∀ x c, X.env.cells.lookup x = some c → c ≠ b) (_root_.Classical.propDecidable _)
theorem mem_younger {X : Cx} {b : Addr} : b ∈ younger X ↔ (b < X.s_0.heap.objs.size ∧ X.s_0.heap.get? b = none) ∧ ∀ x c, X.env.cells.lookup x = some c → c ≠ b := by
  unfold younger
  rw [List.mem_filter, mem_freed]
  exact and_congr_right fun _ => ⟨fun h => @of_decide_eq_true _ (_root_.Classical.propDecidable _) h, fun h => @decide_eq_true _ (_root_.Classical.propDecidable _) h⟩
noncomputable def Cx.yg (X : Cx) : Cx := { X with ex := X.ex ++ younger X }
section
variable {X : Cx} {CX : CXT} {k : Nat} {f C : Addr} {fd : FuncData} {ps : List Str} {sp : Sp} {pins : List (Addr × Obj)} {σ : St} {H : Hp} {s : Shared}
theorem Cx.Ok.yg (ok : X.Ok) : X.yg.Ok where
  mod := ok.mod
  kind := ok.kind
  glob := ok.glob
  blt := ok.blt
  above := ok.above
  inj := ok.inj
  has := ok.has
  cab := ok.cab
  hd := ok.hd
  frames := ok.frames
  stk := ok.stk
  exf := fun b hb => by
    refine ⟨fun z => ?_, fun x c e => ?_⟩
    · rcases List.mem_append.mp hb with h | h
      · exact (ok.exf b h).1 z
      · have h1 := (mem_younger.mp h).1.1
        have h2 : X.s_0.heap.objs.size ≤ X.env.locals := ok.above
        have h3 : b = X.env.locals := z
        rw [h3] at h1
        exact absurd h1 (Nat.not_lt.mpr h2)
    · rcases List.mem_append.mp hb with h | h
      · exact (ok.exf b h).2 x c e
      · exact (mem_younger.mp h).2 x c e
  bs := ok.bs
  bsz := ok.bsz
  noex := fun b o e hb => by
    rcases List.mem_append.mp hb with h | h
    · exact ok.noex b o e h
    · have h1 := (ok.bs b o e).1
      rw [(mem_younger.mp h).1.2] at h1
      cases h1
  exfs := fun b hb hf => by
    rcases List.mem_append.mp hb with h | h
    · exact ok.exfs b h hf
    · obtain ⟨_, o, h1, _⟩ := ok.funs.mem hf
      rw [(mem_younger.mp h).1.2] at h1
      cases h1
  funs := ok.funs
  frf := ok.frf
theorem Inv.yg (I : Inv X pins σ H s) : Inv X.yg pins σ H s where
  ok := I.ok.yg
  os := I.os
  bare := I.bare
  base := ⟨fun b o q n h1 h2 => I.base.keep b o q n h1 (fun z => h2 (List.mem_append_left _ z)), fun b o q n h1 h2 => I.base.slot b o q n h1 (fun z => h2 (List.mem_append_left _ z)), fun b o q n h => I.base.free b o q n (fun z => h (List.mem_append_left _ z)),
    fun b o q h => I.base.there b o q (fun z => h (List.mem_append_left _ z)), I.base.tups, I.base.frzs, I.base.tbls⟩
  loc := I.loc
  cell := I.cell
  free := I.free
  freeC := I.freeC
  pin := I.pin
  hok := I.hok
  len := I.len
theorem not_yg {b : Addr} {o : Obj} (q : X.s_0.heap.get? b = some o) (h : b ∉ X.ex) : b ∉ X.yg.ex := fun z => by
  rcases List.mem_append.mp z with z | z
  · exact h z
  · rw [(mem_younger.mp z).1.2] at q
    cases q
theorem Inv.unyg (ok : X.Ok) (I : Inv X.yg pins σ H s) : Inv X pins σ H s where
  ok := ok
  os := I.os
  bare := I.bare
  base := ⟨fun b o q n h1 h2 => I.base.keep b o q n h1 (not_yg q h2), fun b o q n h1 h2 => I.base.slot b o q n h1 (not_yg q h2), fun b o q n h => I.base.free b o q n (not_yg q h), fun b o q h => I.base.there b o q (not_yg q h), I.base.tups, I.base.frzs, I.base.tbls⟩
  loc := I.loc
  cell := I.cell
  free := I.free
  freeC := I.freeC
  pin := I.pin
  hok := I.hok
  len := I.len
theorem EP.unyg (ok : X.Ok) {Q : VK} {u : Value} (z : EP X.yg pins σ Q u s) : EP X pins σ Q u s := let ⟨v, H', I, r, q⟩ := z; ⟨v, H', I.unyg ok, r, q⟩
theorem PE.young {e : Expr} {te : TE} (h : PE X.yg e te) : PE X e te := ⟨fun pins s σ H Q I q => thn (h.run pins s σ H Q I.yg q) fun _ _ z => z.unyg I.ok⟩
theorem SP.unyg (ok : X.Ok) {D : Ends} {fl : Flow} (z : SP X.yg pins D fl s) : SP X pins D fl s := by
  cases fl with
  | next => obtain ⟨σ', H', J, q⟩ := z; exact ⟨σ', H', J.unyg ok, q⟩
  | brk => obtain ⟨σ', H', J, q⟩ := z; exact ⟨σ', H', J.unyg ok, q⟩
  | cont => obtain ⟨σ', H', J, q⟩ := z; exact ⟨σ', H', J.unyg ok, q⟩
  | ret u => obtain ⟨v, σ', H', J, r, q⟩ := z; exact ⟨v, σ', H', J.unyg ok, r, q⟩
theorem PS.young {st : Stmt} {t : TS} (h : PS X.yg st t) : PS X st t := ⟨fun pins s σ H D I q => wpAny_mono (h.run pins s σ H D I.yg q) (fun _ _ z => z.unyg I.ok) fun _ _ z => z⟩
theorem fpOk_young {b : Addr} {H' : Hp} (I : Inv X.yg pins σ H s) (e : s.heap.get? b = none) (hn : H' b = none) : FpOk X.yg pins H' b := by
  have cl : ∀ x c, X.env.cells.lookup x = some c → c ≠ b := fun x c q z => by
    obtain ⟨v, hv⟩ := I.cell x c q
    have := hv.lt
    obtain ⟨o, ho, _⟩ := hv
    rw [z, e] at ho
    cases ho
  refine ⟨hn, fun z => ?_, fun z => ?_, ?_, fun x c q z => ?_, fun p hp z => ?_⟩
  · obtain ⟨m, hN, _⟩ := I.loc
    obtain ⟨_, _, _, ho, _⟩ := hN
    have z' : b = X.env.locals := z
    rw [z'] at e
    have ho' : s.heap.get? X.env.locals = some _ := ho
    rw [e] at ho'
    cases ho'
  · have z' : b ∈ X.fs := z
    obtain ⟨_, o, h1, _⟩ := Cx.Ok.funs (X := X.yg) I.ok |>.mem z'
    have hx : b ∉ X.yg.ex := fun w => I.ok.exfs b w z
    obtain ⟨o', e'⟩ := I.base.there b o h1 hx
    rw [e] at e'
    cases e'
  · cases q : X.s_0.heap.get? b with
    | some o =>
      by_cases hx : b ∈ X.yg.ex
      · exact .inl hx
      · obtain ⟨o', e'⟩ := I.base.there b o q hx
        rw [e] at e'
        cases e'
    | none =>
      rcases Nat.lt_or_ge b X.s_0.heap.objs.size with lt | ge
      · exact .inl (List.mem_append_right _ (mem_younger.mpr ⟨⟨lt, q⟩, cl⟩))
      · exact .inr ge
  · exact cl x c q z
  · have := (I.pin p hp).1
    rw [z, e] at this
    cases this
/-- for .. in o: o's __iter__ gives a list's iterator -/
def iOwn (K : PySem.W.Frag) (C : Addr) (sp : Sp) (E : St → XK) (ta : TE) : TI := fun σ H R => ta σ H fun x H1 => ∃ a dx fs, x = .ref a ∧ H1 a = some (.ins C dx fs) ∧
  sp [.ref a] H1 (fun v H2 => ∃ l it, v = .ref it ∧ H1 it = none ∧ H2 it = some (ItO l it 0) ∧ (∃ xs, SqL K H2 l xs) ∧ R (Itl K l) (dropH H2 it)) (E σ)
theorem pi_own {tg e : Expr} {ta : TE} {E : St → XK} (m : Meth X.K C "__iter__" f) (F : FnOk X.prog X.w X.K X.mg X.base CX k f fd ps sp) (hr : Room (k + 1) X.A) (hb : Binds X.K fd ps []) (hx : ∀ σ, PassesAt CX X.yg σ (E σ)) (ha : PE X.yg e ta) :
    PI X.yg tg e (iOwn X.K C sp E ta) := by
  refine ⟨fun pins s σ H R I h => ?_⟩
  refine thn (ha.run pins s σ H _ I h) ?_
  rintro v s1 ⟨x, H1, I1, r1, a, dx, fs, rfl, ea, q⟩
  cases r1
  obtain ⟨od, J⟩ := I1.instAt ea
  obtain ⟨m0, hF⟩ := I1.fr
  refine PySem.W.owit_iter hF I1.ok.mod.kin J m.at_ m.fn ?_
  refine thn (run_oneN (X := X.yg) (E := E σ) F (hr.mono (Nat.le_succ k)) rfl hb (hx σ) I1 q) ?_
  rintro u s4 ⟨v, H4, I4, rv, new, l, it, rfl, n1, eit, ⟨xs, hxs⟩, q4⟩
  cases rv
  unfold PySem.W.OwitIt
  have ty4 : s4.TypeIs (.ref it) "list_iterator" := ⟨_, itO_get I4 eit, rfl⟩
  refine wpAny_specialOf ty4 slot_listiter_next.lookup ?_
  dsimp only
  refine ⟨it, [it], _, _, dropH H4 it, rfl, I4.dropped eit, turn_list l it, ⟨_, itO_get I4 eit, rfl, rfl⟩, fun b hb => ?_, q4⟩
  have eb : b = it := by simpa using hb
  rw [eb]
  exact fpOk_young I1 (new it n1 (by rw [eit]; exact fun z => nomatch z)) dropH_at
/-- o.m(e, .., k = v, ..) -/
def tMethK (C : Addr) (m : Str) (n j : Nat) (sp : Sp) (gV : List V → List V → List V) (E : St → XK) (ta : TE) (t tk : TA) : TE := fun σ H Q => ta σ H fun y H1 => ∃ a dx fs, y = .ref a ∧ H1 a = some (.ins C dx fs) ∧ fs.lookup m = none ∧
  t σ H1 fun vs H2 => tk σ H2 fun zs H3 => vs.length = n ∧ zs.length = j ∧ sp (gV (y :: vs) zs) H3 Q (E σ)
theorem pe_methK {o e : Expr} {es : List Expr} {kws : List Keyword} {m : Str} {n : Nat} {ks : List Str} {g : List Value → List Value → List Value} {gV : List V → List V → List V} {E : St → XK} {apos pos : Pos} {ta : TE} {t tk : TA} {pl : Sem Bool} (he : PE X o ta) (c : Cls X.K C) (hm : Meth X.K C m f)
    (F : FnOk X.prog X.w X.K X.mg X.base CX k f fd ps sp) (hr : Room k X.A) (hb : KBn X.K fd ps (n + 1) ks g gV) (hx : ∀ σ, PassesAt CX X σ (E σ)) (ha : PA X (e :: es) t) (hkw : PK X kws tk)
    (hall : (backToKw pos (keywordEach kws X.env)).all (·.1.isSome) = true := by rfl) (hks : (backToKw pos (keywordEach kws X.env)).filterMap (·.1) = ks := by rfl)
    (hst : starEach (e :: es) X.env = (false, eval e X.env) :: starEach es X.env := by rfl) (hpl : ((backTo pos (starEach (e :: es) X.env)).any (·.1) || (backToKw pos (keywordEach kws X.env)).any (·.1.isNone)) = false := by rfl)
    (ht : eval (.Call (.Attribute o m apos) (e :: es) kws pos) X.env = (eval o X.env >>= fun ov => standAt apos.atName >>= fun _ => holding [ov] (getMethod ov m pl) >>= fun ff => callWith pos ff.1 ff.2 (backTo pos (starEach (e :: es) X.env)) (backToKw pos (keywordEach kws X.env))) := by rfl) :
    PE X (.Call (.Attribute o m apos) (e :: es) kws pos) (tMethK C m n ks.length sp gV E ta t tk) := by
  constructor
  intro pins s σ H Q I h
  refine PySem.W.methodCall_KW (pl := pl) (thn (he.run pins s σ H _ I h) ?_) ht
  rintro u s1 ⟨y, H1, I1, ry, a, dx, fs, rfl, ea, l, q⟩
  cases ry
  refine getmeth_ok I1 ea c hm l (PySem.W.callWith_KW (first := [.ref a]) (h₀ := X.base) I.ok.mod.kin hm.kp hall (thn (ha.run pos pins s1 σ H1 _ I1 q) ?_) hpl hst)
  rintro us s2 ⟨vs, H2, I2, r, q2⟩
  refine thn (hkw.run pos pins s2 σ H2 _ I2 q2) fun ws s3 ⟨zs, H3, I3, rz, l1, l2, q3⟩ => ⟨I3.kIn, ?_⟩
  rw [hks]
  exact wpAny_call (run_fnNS (us := .ref a :: us) (vs := .ref a :: vs) F hr hb (hx σ) I3 (.cons rfl r) rz (by rw [List.length_cons, l1]) l2 q3)
end
end L2

/-! x.replace("..."[i], y[j]): both arguments are new texts of one sign. -/
namespace L2
open PySem PySem.Spec PyProof.Rows
def tReplIx (to : TE) (a : Str) (ti tB tj : TE) : TE := fun σ H Q => to σ H fun v H1 => ∃ x, v = .str x ∧ ti σ H1 fun iv H2 => ∃ i c, iv = .int i ∧ a.length ≤ sizeLine ∧ atI a.cps.toList i = some c ∧ tB σ H2 fun bv H3 => tj σ H3 fun jv H4 =>
  ∃ b j d, bv = .str b ∧ jv = .int j ∧ b.length ≤ sizeLine ∧ atI b.cps.toList j = some d ∧ c ≠ d ∧ x.length ≤ 1000000 ∧ Q (.str (Txt.replace x ⟨#[c]⟩ ⟨#[d]⟩)) H4
theorem sub_str {X : Cx} {value slice : Expr} {z : Str} {t t' : Tok} {i : Int} {c : Nat} {s : Shared} {A : Around} {E : Value → Shared → Prop} {Q : Value → Shared → Prop} (hz : z.length ≤ sizeLine) (he : atI z.cps.toList i = some c)
    (hs : subscripted slice false (.str z t) (.int i t') = operate [.str z t, .int i t'] (getItem (.str z t) (.int i t'))) (q : Q (.str ⟨#[c]⟩ s.toks) { s with toks := s.toks + 1 }) :
    wpAny (model X.prog X.w) A (subscriptTail value slice (.str z t) (.int i t')) Q E s := by
  obtain ⟨j, h1, h2, h3, h4, h5⟩ := atI_get he
  have hl : z.cps.toList.length = z.length := by simp [Str.length]
  rw [hl] at h1 h4 h5
  have hn := line63
  exact tail_any (typeIs_str s z t) slot_str_getitem.lookup (getItem_str (c := c) (by
    have e1 : decide (i < -(2 ^ 63 : Int)) = false := decide_eq_false (by omega)
    have e2 : decide (i ≥ 2 ^ 63) = false := decide_eq_false (by omega)
    rw [e1, e2, Bool.or_false]) (by rw [h1]; simpa using h2) q) hs
section
variable {X : Cx} {o i B j : Expr} {to ti tB tj : TE} {a : Str} {k : Nat} {c0 p1 p2 apos pos : Pos}
theorem pe_replIx (ho : PE X o to) (hi : PE X i ti) (hB : PE X B tB) (hj : PE X j tj) (s1 : PlainIx i) (s2 : PlainIx j)
    (hst : starEach [.Subscript (.Constant (.str a) k c0) i p1, .Subscript B j p2] X.env = [(false, eval (.Subscript (.Constant (.str a) k c0) i p1) X.env), (false, eval (.Subscript B j p2) X.env)] := by rfl)
    (hbase : attributeBase o "replace" X.env (eval o X.env) = eval o X.env := by rfl) (hline : (apos.endLine == pos.line) = true := by rfl) :
    PE X (.Call (.Attribute o "replace" apos) [.Subscript (.Constant (.str a) k c0) i p1, .Subscript B j p2] [] pos) (tReplIx to a ti tB tj) := by
  refine ⟨fun pins s σ H Q I h => ?_⟩
  refine PySem.Call_method2 hbase hst hline (thn (ho.run pins s σ H _ I h) ?_)
  rintro v s1' ⟨v', H1, I1, r1, x, rfl, q⟩
  obtain ⟨tx, rfl⟩ := r1
  refine ⟨"str", _, PySem.F.plainAttrs_str, PySem.F.slot_str_replace, PySem.F.type_str_replace, typeIs_str _ _ _, (fun _ e => nomatch e), Calls.callWith_builtin rfl (Calls.evalArgs_plain (Calls.spliced_cons ?_))⟩
  refine Subscript_ (Calls.Constant_str (wpAny_mono (PySem.wpAny_toks (hi.run pins _ σ H1 _ (I1.tok _) q)) ?_ fun _ _ z => z.2))
  rintro u s2' ⟨k1, iv, H2, I2, ri, n, c, rfl, hz, hc, q2⟩
  obtain ⟨ti', rfl⟩ := ri
  have k1 : s1'.toks + 1 ≤ s2'.toks := k1
  refine sub_str (X := X) hz hc (s1 _ _) (Calls.spliced_cons (Subscript_ (wpAny_mono (PySem.wpAny_toks (hB.run pins _ σ H2 _ (I2.tok _) q2)) ?_ fun _ _ z => z.2)))
  rintro w3 s3' ⟨k2, bv, H3, I3, rb, q3⟩
  have k2 : s2'.toks + 1 ≤ s3'.toks := k2
  refine wpAny_mono (PySem.wpAny_toks (hj.run pins _ σ H3 _ I3 q3)) ?_ fun _ _ z => z.2
  rintro w4 s4' ⟨k3, jv, H4, I4, rj, b, m, d, rfl, rfl, hzb, hd, hne, hx, q4⟩
  obtain ⟨tb, rfl⟩ := rb
  obtain ⟨tj', rfl⟩ := rj
  refine sub_str (X := X) hzb hd (s2 _ _) (Calls.spliced_nil ?_)
  have hyz : ((⟨#[c]⟩ : Str) == ⟨#[d]⟩) = false := by
    apply beq_eq_false_iff_ne.mpr
    intro e
    have e2 := congrArg (fun y : Str => y.cps.toList) e
    simp at e2
    exact hne e2
  refine PySem.SC.replace (by show s2'.toks ≠ 0; omega) (by show s4'.toks ≠ 0; omega) (by show s2'.toks ≠ s4'.toks; omega) hyz ?_ fun t' k => ⟨.str (Txt.replace x ⟨#[c]⟩ ⟨#[d]⟩), H4, I4.tok k, ⟨t', rfl⟩, q4⟩
  show x.length + (x.length + 1) * 1 ≤ 16777216
  omega
end
end L2

/-! if and for in a generator's body. -/
namespace L2
open PySem PySem.Spec PyProof.Rows
section
variable {X : Cx}
def tGIf (tc : TT) (ta tb : TGn) : TGn := fun D ys σ H => tc σ H fun k H1 => if k = true then ta D ys σ H1 else tb D ys σ H1
theorem gs_if {c : Expr} {a b : List Stmt} {pos : Pos} {tc : TT} {ta tb : TGn} (hc : PT X c tc) (ha : GSs X a ta) (hb : GSs X b tb) : GS X (.If c a b pos) (tGIf tc ta tb) := by
  refine ⟨fun A S ip R n ys s₀ cd fs K J gd lv s σ H D g hn k hI ht => ?_⟩
  show Seg _ A R _ n s₀ cd (.at pos fun _ => ((isTrue c X.env (eval c X.env)) >>= fun b' => if b' = true then execs a X.env else execs b X.env).wrap K J gd lv) fs s
  refine seg_at ?_
  rw [Sem.bind_eq_wrap', Sem.wrap_wrap]
  refine seg_wrap ?_
  rw [g.over]
  obtain ⟨acc, cc, r, I⟩ := hI
  refine wpAny_mono (hc.run _ s σ H _ I ht) ?_ fun x s' hx => k.exc n s₀ x s' hx
  rintro b' s' ⟨H2, I2, q2⟩
  cases b' with
  | true =>
    rw [if_pos rfl] at q2
    exact ha.run A S ip R n ys s₀ cd fs K J gd lv s' σ H2 D g hn k ⟨acc, cc, r, I2⟩ q2
  | false =>
    rw [if_neg Bool.false_ne_true] at q2
    exact hb.run A S ip R n ys s₀ cd fs K J gd lv s' σ H2 D g hn k ⟨acc, cc, r, I2⟩ q2
end
section
variable {M : Model} {A : Around} {R : GenEnd} {Y : Protocol} {n : Nat} {s₀ : Shared} {c : Code} {fs : List Frame} {s : Shared} {env : Env} {K : Flow → Sem PySem.Fin} {H : Value → Sem PySem.Fin} {gd : Bool → Bool} {lv : List Value → List Value}
theorem seg_For {target iter : Expr} {body orelse : List Stmt} {pos : Pos} (hs : ∀ x, foldedSetIterable iter env x = pure x)
    (h : wpAny M (A.over c fs) (eval iter env) (fun v s1 => wpAny M (A.over c fs) (pyIter v) (fun it s2 => ∀ p, Seg M A R Y n s₀ (.forLoop target it body orelse env) (M.den (.forLoop target it body orelse env))
      (.ret (fun r => ((match r with | .ok f => (.pure f : Sem Flow) | .error e => .raise e).onRaise fun (x : Value) => do
        if (← field x 1) == Value.none then unsupported "frame.own-activation:exception-without-traceback"
        setFlight x env.frame).wrap K H gd lv) none (gd false) (lv []) c p [] :: fs) s2) (fun x s' => Seg M A R Y n s₀ c (H x) fs s') s1) (fun x s' => Seg M A R Y n s₀ c (H x) fs s') s) :
    Seg M A R Y n s₀ c ((exec (.For target iter body orelse pos) env).wrap K H gd lv) fs s := by
  show Seg M A R Y n s₀ c (.at pos fun _ => ((eval iter env) >>= fun v => (foldedSetIterable iter env v >>= fun x => (standAt iter.pos >>= fun _ => (holding [x] (pyIter x) >>= fun it => runOwn (.forLoop target it body orelse env) env)))).wrap K H gd lv) fs s
  refine seg_at ?_
  rw [Sem.bind_eq_wrap', Sem.wrap_wrap]
  refine seg_wrap (wpAny_mono h (fun v s1 h1 => ?_) fun _ _ x => x)
  rw [hs]
  show Seg M A R Y n s₀ c (.at iter.pos fun _ => (holding [v] (pyIter v) >>= fun it => runOwn (.forLoop target it body orelse env) env).wrap K H gd lv) fs s1
  refine seg_at ?_
  rw [Sem.bind_eq_wrap', Sem.wrap_wrap]
  refine seg_wrap (wpAny_mono (wpAny_holding h1) (fun it s2 h2 => ?_) fun _ _ x => x)
  exact seg_call h2
end
section
variable {prog : Program} {w : World} {A : Around} {R : GenEnd} {Y : Protocol} {n : Nat} {s₀ : Shared} {fs : List Frame} {s : Shared} {env : Env}
/-- what a loop's turn does with an exception -/
def errT (env : Env) (x : Value) : Sem PySem.Fin := (do noteFrame x env; theTreesLotGoes x : Sem Unit).wrap (fun _ => .raise x) .raise id id
def bodyK (target : Expr) (it : Value) (body : List Stmt) (env : Env) : Flow → Sem PySem.Fin := fun f => match f with
  | .next | .cont => .pure (.again (.forLoop target it body [] env))
  | .brk => .pure (.done .next)
  | .ret v => .pure (.done (.ret v))
def forG (target : Expr) (it : Value) (body : List Stmt) (env : Env) : Option Value → Sem PySem.Fin := fun r => match r with
  | none => again (.block [] env)
  | some v => letOwnedTupleGo target it v >>= fun _ => assign target env v >>= fun _ => execs body env >>= fun f => match f with
    | .next | .cont => again (.forLoop target it body [] env)
    | .brk => pure (.done .next)
    | .ret v => pure (.done (.ret v))
abbrev errB (env : Env) (e : Value) : Sem PySem.Fin := (do noteFrame e env; theTreesLotGoes e : Sem Unit).bind fun _ => .raise e
theorem errB_eq (env : Env) (e : Value) : errB env e = errT env e := Sem.bind_eq_wrap _ _
theorem seg_forLoop {target : Expr} {it : Value} {body : List Stmt}
    (h : wpAny (model prog w) (A.over (.forLoop target it body [] env) fs) (pyNext it) (fun r s1 => match r with
      | none => Seg (model prog w) A R Y n s₀ (.block [] env) (leafOf (.ok .next)) fs s1
      | some v => wpAny (model prog w) (A.over (.forLoop target it body [] env) fs) (letOwnedTupleGo target it v) (fun _ s2 => wpAny (model prog w) (A.over (.forLoop target it body [] env) fs) (assign target env v) (fun _ s3 =>
          Seg (model prog w) A R Y n s₀ (.forLoop target it body [] env) ((execs body env).wrap (bodyK target it body env) (errT env) id id) fs s3)
        (fun x s' => Seg (model prog w) A R Y n s₀ (.forLoop target it body [] env) (errT env x) fs s') s2) (fun x s' => Seg (model prog w) A R Y n s₀ (.forLoop target it body [] env) (errT env x) fs s') s1)
      (fun x s' => Seg (model prog w) A R Y n s₀ (.forLoop target it body [] env) (errT env x) fs s') s) :
    Seg (model prog w) A R Y n s₀ (.forLoop target it body [] env) ((model prog w).den (.forLoop target it body [] env)) fs s := by
  show Seg _ A R Y n s₀ _ ((forTurn target it body [] env).onRaise (fun x => do noteFrame x env; theTreesLotGoes x)) fs s
  unfold forTurn
  rw [Sem.onRaise_eq_wrap]
  refine seg_at ?_
  show Seg _ A R Y n s₀ _ ((((pyNext it).onRaise (fun _ => standAt { target.pos with line := 0 })) >>= (forG target it body env)).wrap .pure (errB env) id id) fs s
  rw [Sem.bind_eq_wrap', Sem.wrap_wrap]
  refine seg_wrap (wpAny_onRaise (wpAny_mono h (fun r s1 h1 => ?_) fun x s' hx => wpAny_standAt ?_))
  · cases r with
    | none => exact seg_again rfl h1
    | some v =>
      show Seg _ A R Y n s₀ _ ((letOwnedTupleGo target it v >>= fun _ => assign target env v >>= fun _ => execs body env >>= fun f => (match f with
        | .next | .cont => again (.forLoop target it body [] env)
        | .brk => pure (.done .next)
        | .ret v => pure (.done (.ret v)) : Sem PySem.Fin)).wrap .pure (errB env) id id) fs s1
      rw [Sem.bind_eq_wrap', Sem.wrap_wrap]
      refine seg_wrap (wpAny_mono h1 (fun _ s2 h2 => ?_) fun x s' hx => ?_)
      · rw [Sem.bind_eq_wrap', Sem.wrap_wrap]
        refine seg_wrap (wpAny_mono h2 (fun _ s3 h3 => ?_) fun x s' hx => ?_)
        · rw [Sem.bind_eq_wrap', Sem.wrap_wrap]
          have ee : ∀ {K1 K2 : Flow → Sem PySem.Fin} {H1 H2 : Value → Sem PySem.Fin}, K1 = K2 → H1 = H2 → Seg (model prog w) A R Y n s₀ (.forLoop target it body [] env) ((execs body env).wrap K2 H2 id id) fs s3 →
              Seg (model prog w) A R Y n s₀ (.forLoop target it body [] env) ((execs body env).wrap K1 H1 id id) fs s3 := by
            rintro _ _ _ _ rfl rfl h
            exact h
          exact ee (funext fun f => by cases f <;> rfl) (funext fun e => errB_eq env e) h3
        · show Seg _ A R Y n s₀ _ (errB env x) fs s'
          rw [errB_eq]
          exact hx
      · show Seg _ A R Y n s₀ _ (errB env x) fs s'
        rw [errB_eq]
        exact hx
  · show Seg _ A R Y n s₀ _ (errB env x) fs s'
    rw [errB_eq]
    exact hx
end
section
variable {X : Cx}
/-- for in a generator's body: W i n: n bounds the turns that are left -/
def tGFor (wi : TI) (g : TG) (tb : TGn) : TGn := fun D ys σ H => wi σ H fun J H0 => ∃ W : Nat → Nat → List V → St → Hp → Prop, (∃ m, W 0 m ys σ H0) ∧ ∀ i n ys σ H, W i n ys σ H →
  (J.stop i H ∧ D.nx ys σ H) ∨ (J.go i H ∧ ∃ N : List V → St → Hp → Prop, (∀ ys' σ' H', N ys' σ' H' → ∃ m, m < n ∧ W (i + 1) m ys' σ' H') ∧
    ∀ x H', J.yld i H x H' → g x σ H' fun σ1 H1 => tb { D with nx := N, ct := N, bk := D.nx } ys σ1 H1)
theorem gs_for {tg iter : Expr} {body : List Stmt} {wi : TI} {g : TG} {tb : TGn} {pos : Pos} (hp : PassesOwn (model X.prog X.w) X.A X.env X.xe) (hc : X.calm = true) (hi : PI X tg iter wi) (hg : PG X tg g) (hb : GSs X body tb)
    (hs : ∀ x, foldedSetIterable iter X.env x = pure x := by intro _; rfl) : GS X (.For tg iter body [] pos) (tGFor wi g tb) := by
  refine ⟨fun A S ip R n ys s₀ c fs K J' gd lv s σ H D gc hn k hI ht => ?_⟩
  obtain ⟨acc, cc, r, I⟩ := hI
  refine seg_For hs ?_
  rw [gc.over]
  refine wpAny_mono (hi.run _ s σ H _ I ht) (fun v s1 h1 => ?_) fun x s' hx => k.exc n s₀ x s' hx
  refine wpAny_mono h1 (fun itv s2 h2 => ?_) fun x s' hx => k.exc n s₀ x s' hx
  obtain ⟨it, fp, tn, J, H2, rfl, I2, T, st2, f2, W, ⟨m0, w0⟩, turn⟩ := h2
  intro p
  have gl := fun (kk : Result → Sem PySem.Fin) => gc_loop (k := kk) (c' := .forLoop tg (.ref it) body [] X.env) (l := lv []) (kp := []) (p := p) gc rfl rfl
  have stat : ∀ {H' : Hp} {acc' : Array Value} {cc' : Nat}, (∀ b ∈ fp, H' b = none) → ∀ b ∈ fp, FpOk X ((S, lstObj acc' cc') :: ip) H' b := fun {H' acc' cc'} hnn b hb => by
    obtain ⟨a0, a1, a2, a3, a4, a5⟩ := f2 b hb
    refine ⟨hnn b hb, a1, a2, a3, a4, fun q hq => ?_⟩
    rcases List.mem_append.mp hq with z | z
    · exact a5 q (List.mem_append_left _ z)
    · rcases List.mem_cons.mp z with z | z
      · rw [z]
        exact a5 (S, lstObj acc cc) (List.mem_append_right _ List.mem_cons_self)
      · exact a5 q (List.mem_append_right _ (List.mem_cons_of_mem _ z))
  have notS : ∀ b ∈ fp, S ≠ b := fun b hb => (f2 b hb).2.2.2.2.2 (S, lstObj acc cc) (List.mem_append_right _ List.mem_cons_self)
  have glp := fun (kk : Result → Sem PySem.Fin) (h : Heap) => (⟨(gl kk).pn, fun q hq => by
    rcases List.mem_append.mp hq with z | z
    · exact (gl kk).ip q z
    · exact fun e => notS _ (of_pinsAt z).1 e.symm, (gl kk).apart, (gl kk).over, (gl kk).split, (gl kk).guard, (gl kk).gd⟩ : GC X S (ip ++ pinsAt fp h) A (Code.forLoop tg (Value.ref it) body [] X.env) (Frame.ret kk none (gd false) (lv []) c p [] :: fs) id)
  have ee : ∀ (n : Nat) (s₀ : Shared) (x : Value) (s' : Shared), X.xe x s' → Seg (model X.prog X.w) A R (GY X S) n s₀ (.forLoop tg (.ref it) body [] X.env) (errT X.env x)
      (.ret (fun r => ((match r with | .ok f => (.pure f : Sem Flow) | .error e => .raise e).onRaise (cameBack X.env)).wrap K J' gd lv) none (gd false) (lv []) c p [] :: fs) s' := fun n s₀ x s' hx => by
    refine seg_wrap ?_
    rw [(gl _).over]
    refine wpAny_bind (wpAny_mono (hp x s' hx) (fun _ s'' hcb => wpAny_theTreesLotGoes ?_) fun y s'' hcb => ?_)
    · exact seg_leaf (.error x) (seg_cameBack gc k hcb)
    · exact seg_leaf (.error y) (seg_cameBack gc k hcb)
  have loop : ∀ (m i n : Nat) (ys : List V) (s₀ s : Shared) (σ : St) (H : Hp), n + ys.length = sizeLine → W i m ys σ H → GI X S ip ys σ H s → tn i s.heap → (∀ b ∈ fp, H b = none) →
      Seg (model X.prog X.w) A R (GY X S) n s₀ (.forLoop tg (.ref it) body [] X.env) ((model X.prog X.w).den (.forLoop tg (.ref it) body [] X.env))
        (.ret (fun r => ((match r with | .ok f => (.pure f : Sem Flow) | .error e => .raise e).onRaise (cameBack X.env)).wrap K J' gd lv) none (gd false) (lv []) c p [] :: fs) s := by
    intro m
    induction m using Nat.strongRecOn with
    | ind m ih =>
      intro i n ys s₀ s σ H hn w hI st fr
      refine seg_forLoop ?_
      rw [(gl _).over]
      obtain ⟨acc, cc, r, I⟩ := hI
      rcases turn i m ys σ H w with ⟨stop, qn⟩ | ⟨go, N, hN, step⟩
      · refine wpAny_mono (T.done X rfl rfl rfl hc i _ s σ H X.xe I (stat fr) st stop) (fun rr s4 h4 => ?_) fun x s' hx => ee n s₀ x s' hx
        obtain ⟨rfl, I4⟩ := h4
        exact seg_leaf (.ok .next) (k.ok n ys s₀ s4 .next hn ⟨σ, H, ⟨acc, cc, r, I4⟩, qn⟩)
      · refine wpAny_mono (T.item X rfl rfl rfl hc i _ s σ H X.xe I (stat fr) st go) (fun rr s4 h4 => ?_) fun x s' hx => ee n s₀ x s' hx
        obtain ⟨u, rfl, h4⟩ := h4
        refine wpAny_mono h4 (fun _ s5 h5 => ?_) fun x s' hx => ee n s₀ x s' hx
        obtain ⟨x, H5, I5, r5, y5, st5, fr5⟩ := h5
        have I5' := I5.pinned (stat fr5) (T.obj _ _ st5)
        refine wpAny_mono (hg.run _ s5 σ H5 x u _ I5' r5 (step x H5 y5)) (fun _ s6 h6 => ?_) fun x s' hx => ee n s₀ x s' hx
        obtain ⟨σ6, H6, I6, q6⟩ := h6
        refine hb.run A S (ip ++ pinsAt fp s5.heap) R n ys s₀ _ _ _ _ id id s6 σ6 H6 { D with nx := N, ct := N, bk := D.nx } (glp _ _) hn ⟨fun n' ys' s₀' s7 f hn' hs => ?_, fun n' s₀' x s7 hx => ee n' s₀' x s7 hx⟩ ⟨acc, cc, r, I6⟩ q6
        have again : ∀ {σ7 : St} {H7 : Hp}, GI X S (ip ++ pinsAt fp s5.heap) ys' σ7 H7 s7 → N ys' σ7 H7 → Seg (model X.prog X.w) A R (GY X S) n' s₀' (.forLoop tg (.ref it) body [] X.env) (.pure (.again (.forLoop tg (.ref it) body [] X.env)))
            (.ret (fun r => ((match r with | .ok f => (.pure f : Sem Flow) | .error e => .raise e).onRaise (cameBack X.env)).wrap K J' gd lv) none (gd false) (lv []) c p [] :: fs) s7 := by
          rintro σ7 H7 ⟨acc7, cc7, r7, I7⟩ n7
          obtain ⟨m', hm, w7⟩ := hN ys' σ7 H7 n7
          have I7' : Inv X (((S, lstObj acc7 cc7) :: ip) ++ pinsAt fp s5.heap) σ7 H7 s7 := I7
          refine seg_again rfl (ih m' hm (i + 1) n' ys' s₀' s7 σ7 H7 hn' w7 ⟨acc7, cc7, r7, I7'.unpinned⟩ (T.keep _ _ _ st5 fun b hb o e => (I7'.pin (b, o) (List.mem_append_right _ (List.mem_append_right _ (mem_pinsAt hb e)))).1) fun b hb => ?_)
          obtain ⟨o, e, d⟩ := T.obj _ _ st5 b hb
          exact (I7'.pin (b, o) (List.mem_append_right _ (List.mem_append_right _ (mem_pinsAt hb e)))).2.1
        have back : ∀ {σ7 : St} {H7 : Hp}, GI X S (ip ++ pinsAt fp s5.heap) ys' σ7 H7 s7 → GI X S ip ys' σ7 H7 s7 := by
          rintro σ7 H7 ⟨acc7, cc7, r7, I7⟩
          have I7' : Inv X (((S, lstObj acc7 cc7) :: ip) ++ pinsAt fp s5.heap) σ7 H7 s7 := I7
          exact ⟨acc7, cc7, r7, I7'.unpinned⟩
        cases f with
        | next => obtain ⟨σ7, H7, I7, n7⟩ := hs; exact again I7 n7
        | cont => obtain ⟨σ7, H7, I7, n7⟩ := hs; exact again I7 n7
        | brk => obtain ⟨σ7, H7, I7, q7⟩ := hs; exact seg_leaf (.ok .next) (k.ok n' ys' s₀' s7 .next hn' ⟨σ7, H7, back I7, q7⟩)
        | ret v => obtain ⟨x7, σ7, H7, I7, r7, q7⟩ := hs; exact seg_leaf (.ok (.ret v)) (k.ok n' ys' s₀' s7 (.ret v) hn' ⟨x7, σ7, H7, back I7, r7, q7⟩)
  exact loop m0 0 n ys s₀ s2 σ H2 hn w0 ⟨acc, cc, r, I2⟩ st2 fun b hb => (f2 b hb).1
end
section
variable {P : Program} {w : World} {mg : Str → Option Value} {base : Heap} {K : PySem.W.Frag} {x qual : Str} {params : Arguments} {body : List Stmt} {scope : Scope} {dvs : List V} {kws : List (Str × V)} {f : Addr} {fd : FuncData}
theorem FunD.okGen {N ps : List Str} {k : Nat} {sp : SpG} (F : FunD K x qual params body scope dvs kws f fd) (S : GScope N ps scope) (len : ∀ vs H Q E, sp vs H Q E → vs.length = ps.length)
    (hbody : ∀ (cdv : Value) (A : Around) (outer : List Env) (s : Shared) (H : Hp) (vs : List V) (Q : List V → Hp → Prop) (E : XK) (pn : List (Addr × Obj)), Room k (A.deeper (envOfC qual scope s.heap.objs.size f cdv)) → sp vs H Q E →
      ∃ t, GSs (gcxOf P w K mg base N qual scope f cdv A outer s H E pn) body t ∧ t { nx := fun ys _ H' => Q ys H', rt := fun ys v H' => v = .non ∧ Q ys H' } [] (start N vs) H) : GFn P w K mg base (k + 1) f fd ps sp := by
  obtain ⟨oc, od, dV, kV, doc, pm, an, cdv, ct, osl, rfl, lk, hcd, _, _⟩ := F.ex
  exact gfn_of lk hcd S len fun A outer s H vs Q E pn hr hsp => hbody cdv A outer s H vs Q E pn hr hsp
theorem passesE0 {X : Cx} : Passes (CX X.prog X.w) X E0 := fun pins σ H s e s' I c => passE0 σ pins H s e s' I c
theorem nostopE0 {K : PySem.W.Frag} : NoStop K E0 := fun _ _ _ z => False.elim z
end
end L2

/-! set(text), and sorted(..) of it: the signs of the text, each once, rising. After HandS.Set, for texts of one sign. -/
namespace L2
open PySem PySem.Spec PyProof.Rows
namespace SX
def keyS (e : Int × Value) : Str := match e.2 with | .str x _ => x | _ => Str.empty
def Gd (w : World) (e : Int × Value) : Prop := ∃ x tk, e.2 = Value.str x tk ∧ e.1 = hashStr w x
/-- a set of texts: its members without doubles; it can be walked -/
def SetS (w : World) (h : Heap) (a : Addr) (ks : List Str) : Prop :=
  ∃ o es ep t, h.get? a = some o ∧ o.ExactSet ∧ o.data = .set es ep t ∧ (∀ e ∈ es.toList, Gd w e) ∧ (es.toList.map keyS).Perm ks ∧ ks.Nodup ∧
    es.size < scanBound ∧ t.fits es.size = true ∧ Ris t.place.toList ∧ (w.params.followText "set-order" = true ∨ t.led = true)
section
variable {P : Program} {w : World} {h h' : Heap} {a : Addr} {ks : List Str}
theorem SetS.kept (R : SetS w h a ks) (k : ∀ o, h.get? a = some o → h'.get? a = some o) : SetS w h' a ks := let ⟨o, es, ep, t, g, r⟩ := R; ⟨o, es, ep, t, k o g, r⟩
theorem gd_elems {l : List (Int × Value)} (g : ∀ e ∈ l, Gd w e) : ElemsOf (strKind P w) l := fun e he => by
  obtain ⟨x, tk, e1, e2⟩ := g e he
  refine ⟨⟨x, ?_, e2⟩, ?_⟩
  · rw [e1]; exact strKind_is P w x tk
  · rw [e1]; rfl
theorem gd_is {e : Int × Value} (g : Gd w e) (x : Str) : (strKind P w).is x e.2 = true ↔ keyS e = x := by
  obtain ⟨y, tk, e1, _⟩ := g
  unfold keyS
  rw [e1]
  constructor
  · intro q
    exact (strKind P w).inj _ _ _ (strKind_is P w y tk) q
  · intro q
    have q : y = x := q
    rw [← q]
    exact strKind_is P w y tk
theorem gd_mem {l : List (Int × Value)} (g : ∀ e ∈ l, Gd w e) (x : Str) : x ∈ l.map keyS ↔ ∃ e ∈ l, (strKind P w).is x e.2 = true := by
  rw [List.mem_map]
  exact ⟨fun ⟨e, he, q⟩ => ⟨e, he, (gd_is (g e he) x).2 q⟩, fun ⟨e, he, q⟩ => ⟨e, he, (gd_is (g e he) x).1 q⟩⟩
end
/-- x behind the list, unless it is in it -/
def addK (ks : List Str) (x : Str) : List Str := if x ∈ ks then ks else ks ++ [x]
theorem addK_nodup {ks : List Str} {x : Str} (h : ks.Nodup) : (addK ks x).Nodup := by
  unfold addK
  split
  · exact h
  · rename_i c
    refine List.nodup_append.mpr ⟨h, by simp, fun y hy z hz e => ?_⟩
    rw [List.mem_singleton.mp hz] at e
    exact c (e ▸ hy)
theorem addK_mem {ks : List Str} {x y : Str} : y ∈ addK ks x ↔ y ∈ ks ∨ y = x := by
  unfold addK
  split
  · rename_i c
    exact ⟨.inl, fun q => q.elim id fun e => e ▸ c⟩
  · simp
theorem addK_len (ks : List Str) (x : Str) : (addK ks x).length ≤ ks.length + 1 := by
  unfold addK
  split
  · omega
  · simp
section
variable {P : Program} {w : World} {A : Around} {E : Value → Shared → Prop} {s : Shared} {a : Addr} {ks : List Str}
theorem add_end {g : Bool → Sem Unit} (gq : ∀ (b : Bool) (s9 : Shared) (Q9 : Unit → Shared → Prop), Q9 () s9 → wpAny (model P w) A (g b) Q9 E s9)
    {o : Obj} {es : Array (Int × Value)} {ep : Nat} {t : SetTable} (oa : s.heap.get? a = some o) (ox : o.ExactSet) (od : o.data = .set es ep t)
    {e1 : Array (Int × Value)} {t2 : SetTable} {ls : List Str} (q1 : ∀ e ∈ e1.toList, Gd w e) (q2 : (e1.toList.map keyS).Perm ls) (q3 : ls.Nodup)
    (q4 : e1.size < scanBound) (q5 : t2.fits e1.size = true) (q6 : Ris t2.place.toList) (q7 : w.params.followText "set-order" = true ∨ t2.led = true) {wd : Bool} {R : Option Bool → Shared → Prop}
    (qR : ∀ h', Heap.SameBut a s.heap h' → SetS w h' a ls → R (some true) { s with heap := h' }) :
    wpAny (model P w) A (do
        storeSet a e1 t2
        if (!wd && t2.tooFull) = true then do
            g (relayAll t2 e1 (SetTable.grown e1.size)).2.2
            storeSet a (relayAll t2 e1 (SetTable.grown e1.size)).1 (relayAll t2 e1 (SetTable.grown e1.size)).2.1
            pure (some true)
          else pure (some true)) R E s := by
  refine wpAny_bind (wpAny_storeSet_of oa od ?_ (fits_of_scanBound q4))
  have o1 := store_at (es' := e1) (t' := t2) oa od
  have b1 := Heap.SameBut.update s.heap a (Obj.putSet e1 t2)
  split
  · have p0 := relayAll_perm t2 e1 (SetTable.grown e1.size)
    have p1 := relayAll_fits t2 e1 (SetTable.grown e1.size)
    have p2 := relayAll_ris t2 e1 (SetTable.grown e1.size)
    have p3 := relayAll_led t2 e1 (SetTable.grown e1.size)
    generalize relayAll t2 e1 (SetTable.grown e1.size) = Y at p0 p1 p2 p3 ⊢
    obtain ⟨e2, t3, gv⟩ := Y
    dsimp only at p0 p1 p2 p3 ⊢
    have sz : e2.size = e1.size := by rw [← Array.length_toList, p0.length_eq, Array.length_toList]
    have sb : e2.size < scanBound := by rw [sz]; exact q4
    refine wpAny_bind (gq _ _ _ (wpAny_bind (wpAny_storeSet_of o1 rfl ?_ (fits_of_scanBound sb))))
    have o2 := store_at (es' := e2) (t' := t3) o1 rfl
    refine wpAny_pure (qR _ (b1.trans (Heap.SameBut.update _ a _)) ⟨_, e2, _, t3, o2, ox, rfl, fun e he => q1 e (p0.mem_iff.mp he), (p0.map keyS).trans q2, q3, sb, p1, p2, ?_⟩)
    rcases q7 with z | z
    · exact .inl z
    · exact .inr (by rw [p3]; exact z)
  · exact wpAny_pure (qR _ b1 ⟨_, e1, _, t2, o1, ox, rfl, q1, q2, q3, q4, q5, q6, q7⟩)
theorem add_one {x : Str} {tk : Tok} {Q : Bool → Shared → Prop} (R : SetS w s.heap a ks) (room : ks.length + 1 < scanBound)
    (qQ : ∀ h' b, Heap.SameBut a s.heap h' → SetS w h' a (addK ks x) → Q b { s with heap := h' }) :
    wpAny (model P w) A (setAddHashed a (.str x tk) (hashStr w x)) Q E s := by
  obtain ⟨o, es, ep, t, oa, ox, od, g, pm, nd, sbd, ft, ri, ld⟩ := R
  have isx : (strKind P w).is x (.str x tk) = true := strKind_is P w x tk
  have scx : (Value.str x tk).scannable = true := rfl
  have els : ElemsOf (strKind P w) es.toList := gd_elems g
  have esz : es.size = ks.length := by have := pm.length_eq; rw [List.length_map, Array.length_toList] at this; exact this
  unfold setAddHashed setAddHashedIn
  refine wpAny_holding (wpAny_bind (wpAny_setState_of oa od ft ?_))
  dsimp only
  rw [byScan_of scx sbd els]
  simp only [↓reduceIte]
  unfold setAddByScan
  refine wpAny_bind (wpAny_bind (wpAny_rule ?_))
  refine wpAny_bind (wpAny_setScan_of (knd := strKind P w) isx oa od ft els ?_)
  cases hf : List.findIdx? (fun e => (strKind P w).is x e.2) es.toList with
  | some j =>
    dsimp only
    obtain ⟨hj, pj, _⟩ := List.findIdx?_eq_some_iff_getElem.mp hf
    have inx : x ∈ ks := pm.mem_iff.mp ((gd_mem (P := P) g x).2 ⟨es.toList[j], List.getElem_mem hj, pj⟩)
    refine wpAny_pure (wpAny_pure ?_)
    have q := qQ s.heap false (Heap.SameBut.refl a s.heap) ⟨o, es, ep, t, oa, ox, od, g, by unfold addK; rw [if_pos inx]; exact pm, by unfold addK; rw [if_pos inx]; exact nd, sbd, ft, ri, ld⟩
    exact q
  | none =>
    dsimp only
    have nox : x ∉ es.toList.map keyS := fun z => by
      obtain ⟨e, he, q⟩ := (gd_mem (P := P) g x).1 z
      have c := List.findIdx?_eq_none_iff.mp hf e he
      rw [q] at c
      cases c
    have nok : x ∉ ks := fun z => nox (pm.mem_iff.mpr z)
    have gwy : ∀ (b : Bool) {s9 : Shared} {Q9 : Unit → Shared → Prop}, Q9 () s9 → wpAny (model P w) A (match b with | true => rule "set.scan.the-table-gave-way" | false => pure ()) Q9 E s9 := fun b s9 Q9 q => by
      cases b
      · exact wpAny_pure q
      · exact wpAny_rule q
    have l0 := layNew_perm t es (hashStr w x) (.str x tk)
    have l1 := layNew_fits t es (hashStr w x) (.str x tk)
    have l2 := layNew_ris t es (hashStr w x) (.str x tk) ri
    have l3 := layNew_led t es (hashStr w x) (.str x tk)
    show wpAny (model P w) A _ _ E s
    have eh : (strKind P w).hash x = hashStr w x := rfl
    generalize layNew t es (hashStr w x) (.str x tk) = Y at l0 l1 l2 l3 ⊢
    obtain ⟨e1, t1, wd, gv⟩ := Y
    dsimp only at l0 l1 l2 l3 ⊢
    rw [Array.toList_push] at l0
    have lc : e1.toList.Perm ((hashStr w x, Value.str x tk) :: es.toList) := l0.trans (List.perm_append_singleton _ _)
    have lk : (e1.toList.map keyS).Perm (addK ks x) := by
      unfold addK
      rw [if_neg nok]
      exact (lc.map keyS).trans ((List.Perm.cons x pm).trans (List.perm_append_singleton x ks).symm)
    have g1 : ∀ e ∈ e1.toList, Gd w e := fun e he => by
      rcases List.mem_cons.mp (lc.mem_iff.mp he) with z | z
      · exact ⟨x, tk, by rw [z], by rw [z]⟩
      · exact g e z
    have n1 : (addK ks x).Nodup := addK_nodup nd
    have z1 : e1.size = es.size + 1 := by rw [← Array.length_toList, lc.length_eq, List.length_cons, Array.length_toList]
    have b1 : e1.size < scanBound := by rw [z1, esz]; exact room
    have d1 : w.params.followText "set-order" = true ∨ t1.led = true := by
      rcases ld with z | z
      · exact .inl z
      · exact .inr (by rw [l3]; exact z)
    refine wpAny_bind (gwy _ ?_)
    split
    · refine wpAny_bind ?_
      rw [hashByValue_scannable 8 scx]
      refine wpAny_pure ?_
      refine add_end (ls := addK ks x) ?_ oa ox od g1 lk n1 b1 ?_ ?_ ?_ ?_
      · intro b s9 Q9 q
        cases b
        · exact wpAny_pure q
        · exact wpAny_rule q
      · first | (split <;> first | exact l1 | exact SetTable.fits_plain_off l1) | exact l1
      · first | (split <;> exact l2) | exact l2
      · first | (split <;> exact d1) | exact d1
      · intro h' sb r
        dsimp only
        exact wpAny_pure (qQ h' true sb r)
    · refine wpAny_bind (wpAny_pure ?_)
      simp only [↓reduceIte]
      refine add_end (ls := addK ks x) ?_ oa ox od g1 lk n1 b1 l1 l2 d1 ?_
      · intro b s9 Q9 q
        cases b
        · exact wpAny_pure q
        · exact wpAny_rule q
      · intro h' sb r
        dsimp only
        exact wpAny_pure (qQ h' true sb r)
/-- the signs of a text, each once, in the order in which they are met -/
def metS (x : Str) : Nat → List Str
  | 0 => []
  | i + 1 => match x.cps[i]? with | some c => addK (metS x i) ⟨#[c]⟩ | none => metS x i
theorem metS_len (x : Str) : ∀ i, (metS x i).length ≤ i
  | 0 => Nat.le_refl _
  | i + 1 => by
    have := metS_len x i
    unfold metS
    split
    · rename_i c _
      have := addK_len (metS x i) ⟨#[c]⟩
      omega
    · omega
theorem metS_nodup (x : Str) : ∀ i, (metS x i).Nodup
  | 0 => by simp [metS]
  | i + 1 => by
    unfold metS
    split
    · exact addK_nodup (metS_nodup x i)
    · exact metS_nodup x i
theorem metS_mem (x : Str) (y : Str) : ∀ i, y ∈ metS x i ↔ ∃ j c, j < i ∧ x.cps[j]? = some c ∧ y = ⟨#[c]⟩
  | 0 => by simp [metS]
  | i + 1 => by
    have ih := metS_mem x y i
    unfold metS
    split
    · rename_i c hc
      rw [addK_mem, ih]
      constructor
      · rintro (⟨j, d, h1, h2, h3⟩ | e)
        · exact ⟨j, d, by omega, h2, h3⟩
        · exact ⟨i, c, by omega, hc, e⟩
      · rintro ⟨j, d, h1, h2, h3⟩
        by_cases e : j = i
        · subst e
          rw [hc] at h2
          cases h2
          exact .inr h3
        · exact .inl ⟨j, d, by omega, h2, h3⟩
    · rename_i hc
      rw [ih]
      constructor
      · rintro ⟨j, d, h1, h2, h3⟩
        exact ⟨j, d, by omega, h2, h3⟩
      · rintro ⟨j, d, h1, h2, h3⟩
        refine ⟨j, d, ?_, h2, h3⟩
        rcases Nat.lt_or_ge j i with q | q
        · exact q
        · have : j = i := by omega
          rw [this, hc] at h2
          cases h2
theorem loop_signs {I : Addr} {fp wr : List Addr} {G : Array GenState → Array GenState → Prop} {St : Nat → Shared → Prop} {R : Result → Shared → Prop} {x : Str}
    (W : WalksS P w A.in1 I fp wr G x.cps.size (SignAt x) St) (D : Addr) (nD : D ∉ fp) (bd : x.cps.size + 1 < scanBound) :
    ∀ (m i : Nat) (s : Shared), x.cps.size - i = m → i ≤ x.cps.size → St i s → SetS w s.heap D (metS x i) →
      (∀ s', Moved (D :: wr) G s s' → SetS w s'.heap D (metS x x.cps.size) → R (.ok (.ret .none)) s') →
      codeAny (model P w) A (.builtin "set.update.loop" ⟨[.ref D, .ref I], []⟩) R s := by
  have nw : D ∉ wr := fun z => nD (W.sub _ z)
  have sub : ∀ b ∈ wr, b ∈ D :: wr := fun b z => List.mem_cons_of_mem _ z
  intro m
  induction m with
  | zero =>
    intro i s hm hi st hS hR
    have ei : i = x.cps.size := by omega
    subst ei
    refine codeAny_builtin F.entry_set_update_loop ?_
    rw [Around.under_plainId F.plain_set_update_loop _]
    show wpAny _ A.in1 (pyNext (.ref I) >>= _) _ _ s
    exact wpAny_bind (W.done s _ _ st fun s' mv => wpAny_pure (hR s' (mv.mono sub) (hS.kept fun o e => mv.heap D o nw e)))
  | succ m ih =>
    intro i s hm hi st hS hR
    have lt : i < x.cps.size := by omega
    refine codeAny_builtin F.entry_set_update_loop ?_
    rw [Around.under_plainId F.plain_set_update_loop _]
    show wpAny _ A.in1 (pyNext (.ref I) >>= _) _ _ s
    refine wpAny_bind (W.item i s _ _ lt st fun v s' hP st' mv => ?_)
    obtain ⟨c, tk, hc, rfl⟩ : ∃ c tk, x.cps[i]? = some c ∧ v = .str ⟨#[c]⟩ tk := hP
    have hS' := hS.kept (h' := s'.heap) fun o e => mv.heap D o nw e
    show wpAny _ A.in1 (holding [Value.str ⟨#[c]⟩ tk] (setAdd D (.str ⟨#[c]⟩ tk)) >>= _) _ _ s'
    refine wpAny_bind (wpAny_holding ?_)
    unfold setAdd
    refine wpAny_holding (wpAny_bind ((strKind P w).pyHash (k := ⟨#[c]⟩) (strKind_is _ _ _ _) ?_))
    have ml := metS_len x i
    refine add_one (s := { s' with toks := s'.toks + 1 }) hS' (by omega) fun h' b sb hS2 => ?_
    have e2 : addK (metS x i) ⟨#[c]⟩ = metS x (i + 1) := by
      show _ = match x.cps[i]? with | some c => addK (metS x i) ⟨#[c]⟩ | none => metS x i
      rw [hc]
    rw [e2] at hS2
    refine wpAny_pure ⟨plainId_quiet F.plain_set_update_loop _, ih (i + 1) _ (by omega) lt (W.frame _ s' _ _ st' (Nat.le_succ _) fun b hb o e => ?_) hS2 fun s2 mv2 hS3 => ?_⟩
    · rw [sb.2 b (fun z : b = D => nD (by rw [← z]; exact hb))]
      exact e
    · refine hR s2 (Moved.trans W.gtrans ((mv.mono sub).then_heap (Nat.le_succ _) fun b o hb e => ?_) mv2) hS3
      rw [sb.2 b (fun z : b = D => hb (by rw [z]; exact List.mem_cons_self))]
      exact e
theorem fresh_at {h : Heap} {a : Addr} (oa : h.get? a = some { cls := .type "set", dict := none, data := .set #[] 0 (.fresh 0 0 (!w.params.followText "set-order")) }) : SetS w h a [] :=
  ⟨_, #[], 0, _, oa, ⟨rfl, rfl, rfl⟩, rfl, (fun e he => by simp at he), by simp, by simp, by decide, by rfl, List.Pairwise.nil, by
    show _ ∨ (!w.params.followText "set-order") = true
    cases w.params.followText "set-order" with
    | false => exact .inr rfl
    | true => exact .inl rfl⟩
set_option maxHeartbeats 6400000 in
theorem set_of_text {x : Str} {tx : Tok} {Q : Value → Shared → Prop} (hh : A.handled = none) (bd : x.cps.size + 1 < scanBound)
    (q : ∀ (h' : Heap) (tk : Nat), SetS w h' s.heap.objs.size (metS x x.cps.size) → (∀ b o, s.heap.get? b = some o → h'.get? b = some o) → Q (.ref s.heap.objs.size) { s with heap := h', toks := tk }) :
    wpAny (model P w) A (call (.type "set") [.str x tx]) Q E s := by
  obtain ⟨c, tl, hmro⟩ := F.called_set.mro
  have k1 := F.called_set.made
  have k2 := F.called_set.sub
  refine wpAny_call (codeAny_of_tree ?_)
  show wpAny _ _ (callAny (.type "set") _) _ _ _
  refine wpAny_pure ⟨Code.quiet_builtin _ (by decide +kernel), codeAny_builtin F.entry_type_call ?_⟩
  rw [Around.under_plain (weight_type_call_type "set" [.str x tx] []) rfl]
  have k3 := F.called_set.notType
  have k4 := F.called_set.canCreate
  have k5 := F.typeCall_set_1 (.str x tx)
  repeat (any_goals (first | assumption | wp_step))
  refine codeAny_mono (code_set_led1 (.str x tx) (E := E) (Q₁ := fun ob s9 => ob = .ref s.heap.objs.size ∧ s9 = { s with heap := s.heap.push { cls := .type "set", dict := none, data := .set #[] 0 (.fresh 0 0 (!w.params.followText "set-order")) } }) ⟨rfl, rfl⟩) fun r s9 hr => ?_
  cases r with
  | error e => exact hr
  | ok fl =>
    cases fl with
    | ret ob =>
      obtain ⟨rfl, rfl⟩ := hr
      have oS : (s.heap.push { cls := .type "set", dict := none, data := .set #[] 0 (.fresh 0 0 (!w.params.followText "set-order")) }).get? s.heap.objs.size = some { cls := .type "set", dict := none, data := .set #[] 0 (.fresh 0 0 (!w.params.followText "set-order")) } := Heap.get?_push_size _ rfl
      have tS : Shared.TypeIs { s with heap := s.heap.push { cls := .type "set", dict := none, data := .set #[] 0 (.fresh 0 0 (!w.params.followText "set-order")) } } (.ref s.heap.objs.size) "set" := ⟨_, oS, rfl⟩
      have k6 := F.called_set.init.lookup
      have k7 := F.called_set.init.bind (.ref s.heap.objs.size)
      repeat (any_goals (first | assumption | wp_step))
      refine codeAny_mono (codeAny_call_builtin (R := wants (fun r s2 => r = .none ∧ ∃ h' tk, s2 = { s with heap := h', toks := tk } ∧ SetS w h' s.heap.objs.size (metS x x.cps.size) ∧
          (∀ b o, s.heap.get? b = some o → h'.get? b = some o)) E) F.called_set.init.plain F.entry_set_init (check_set_init_1 tS ?_)) fun r2 s2 hr2 => ?_
      · have k8 : isSubtype (.type "str") (.type "set") = pure false := by rw [isSubtype_type]; kernel_rfl
        have k9 : isSubtype (.type "str") (.type "frozenset") = pure false := by rw [isSubtype_type]; kernel_rfl
        have ne : (Value.type "str" == Value.type "dict") = false := by decide
        unfold Builtin.«set.__init__» noKeywords Builtin.Frozenset.updateFrom
        generalize hPI : pyIter = PI
        wp_walk
        subst hPI
        refine wpAny_pyIter_str fun o St WW st0 => ?_
        refine wpAny_bind (wpAny_runValue ?_)
        have h3 : A.in1.in1.in1.handled = none := by simp [hh]
        generalize hH : s.heap.push { cls := .type "set", dict := none, data := .set #[] 0 (.fresh 0 0 (!w.params.followText "set-order")) } = H at WW st0 oS ⊢
        have hz : H.objs.size = s.heap.objs.size + 1 := by rw [← hH, Heap.size_push]
        have nD : s.heap.objs.size ∉ [H.objs.size] := fun z => by
          have := List.mem_singleton.mp z
          omega
        refine loop_signs (WW _ h3).toS s.heap.objs.size nD bd (x.cps.size - 0) 0 _ rfl (Nat.zero_le _) st0 (fresh_at (Heap.get?_push_of_some _ oS)) fun s' mv hS' => ?_
        obtain ⟨h', g2, d2, tk2, os2⟩ := s'
        have eg : g2 = s.gens := mv.gens
        have ed : d2 = s.drawn := mv.drawn
        have eo : os2 = s.os := mv.os
        subst eg; subst ed; subst eo
        refine wpAny_pure (wpAny_pure ⟨rfl, h', tk2, rfl, hS', fun b o e => ?_⟩)
        have lt := Heap.lt_size e
        refine mv.heap b o (fun z => ?_) (Heap.get?_push_of_some _ (hH ▸ Heap.get?_push_of_some _ e))
        rcases List.mem_cons.mp z with z | z
        · exact absurd lt (by rw [z]; exact Nat.lt_irrefl _)
        · exact absurd lt (by rw [List.mem_singleton.mp z, hz]; exact Nat.not_lt.mpr (Nat.le_succ _))
      · cases r2 with
        | error e => exact hr2
        | ok f2 =>
          cases f2 with
          | ret r =>
            obtain ⟨rfl, h', tk, rfl, hS', kp⟩ := hr2
            repeat (any_goals (first | assumption | wp_step))
            exact q _ _ hS' kp
          | _ => exact hr2.elim
    | _ => exact hr.elim
theorem strs_of : ∀ (l : List Value), (∀ v ∈ l, ∃ x tk, v = Value.str x tk) → ∃ ss, StrsAre l ss ∧ ss = l.map fun v => match v with | .str x _ => x | _ => Str.empty
  | [], _ => ⟨[], .nil, rfl⟩
  | v :: l, g => by
    obtain ⟨x, tk, rfl⟩ := g v List.mem_cons_self
    obtain ⟨ss, r, e⟩ := strs_of l fun u hu => g u (List.mem_cons_of_mem _ hu)
    exact ⟨x :: ss, .cons x tk r, by rw [e]; rfl⟩
theorem sorted_of_set {Q : Value → Shared → Prop} (R : SetS w s.heap a ks) (hh : A.handled = none) (few : ks.length < 64)
    (q : ∀ s' p (out : Array Value) (c : Nat) (ys : List Str), (∀ b o, s.heap.get? b = some o → s'.heap.get? b = some o) → s'.gens = s.gens → s'.os = s.os → s.heap.objs.size ≤ p →
      s'.heap.get? p = some (seqObj "list" out c) → StrsAre out.toList ys → ys.Perm ks → sortedS ys = true → Q (.ref p) s') :
    wpAny (model P w) A (call (.builtin "sorted") [.ref a]) Q E s := by
  obtain ⟨o, es, ep, t, oa, ox, od, g, pm, nd, sbd, ft, ri, ld⟩ := R
  have esz : es.size = ks.length := by have := pm.length_eq; rw [List.length_map, Array.length_toList] at this; exact this
  refine Calls.call_function_entry kind_sorted plain_sorted entry_sorted (args_sorted1 _) ?_
  unfold Builtin.«sorted»
  refine wpAny_bind (m := checkCount "sorted" 1 1 _) (wpAny_pure ?_)
  refine wpAny_bind (collect_set (A := A.in1) hh ⟨o, oa, ox.1, od⟩ ft sbd ri ld fun s1 vs k1 hz g1 o1 vp => ?_)
  have vl : vs.length = ks.length := by rw [vp.length_eq, List.length_map, Array.length_toList]; exact esz
  obtain ⟨ss, hS, es1⟩ := strs_of vs fun v hv => by
    obtain ⟨e, he, q⟩ := List.mem_map.mp (vp.mem_iff.mp hv)
    obtain ⟨x, tk, e1, _⟩ := g e he
    exact ⟨x, tk, by rw [← q]; exact e1⟩
  have sp : ss.Perm ks := by
    have q := vp.map fun v => match v with | .str x _ => x | _ => Str.empty
    rw [List.map_map, ← es1] at q
    exact q.trans pm
  refine wpAny_bind (wpAny_newList ?_ (by rw [vl, sizeLine_eq]; omega))
  have oL : (s1.heap.push (seqObj "list" vs.toArray 0)).get? s1.heap.objs.size = some (seqObj "list" vs.toArray 0) := Heap.get?_push_size _ rfl
  refine wpAny_bind (wpAny_holding (wpAny_call_entry slot_list_sort ⟨_, oL, rfl⟩ entry_list_sort
    (list_sort_treeK strKind_oneLt oL hS.keysOf (fun v1 v2 rest e => keyKind_strs (by rw [← e]; exact hS)) (by rw [vl]; exact few) fun st' hp hs => ⟨_, rfl, ?_⟩) (args_list_sort _)))
  obtain ⟨ys, y1, y2, y3⟩ := sorted_out_str hS hp hs
  obtain ⟨c, hc⟩ := sortedHeap_at (vs := vs) (out := (arrOf st').map (·.2)) oL
  refine wpAny_pure ⟨_, rfl, q _ s1.heap.objs.size _ c ys (fun b u e => ?_) g1 o1 hz hc y1 (y2.trans sp) y3⟩
  have e1 := k1 b u e
  have lt := Heap.lt_size e1
  show (sortedHeap (s1.heap.push (seqObj "list" vs.toArray 0)) s1.heap.objs.size vs _).get? b = some u
  rw [sortedHeap_old (Nat.ne_of_lt lt) (by rw [size_push']; exact Nat.lt_succ_of_lt lt)]
  exact Heap.get?_push_of_some _ e1
end
end SX
/-! ### over the layer -/
/-- the set of texts ks at a -/
def StrSet (w : World) (a : Addr) (ks : List Str) : HO := .ext fun h => SX.SetS w h a ks
theorem strSet_new {P : Program} {w : World} {H : Hp} {h : Heap} {a : Addr} {ks : List Str} (R : SX.SetS w h a ks) : ObjOk P w H h a (StrSet w a ks) := by
  have ⟨o, _, _, _, ho, _⟩ := R
  exact ⟨R, ⟨o, ho⟩, fun h1 h2 p k => SX.SetS.kept p k⟩
section
variable {X : Cx}
theorem strSet_get {pins : List (Addr × Obj)} {σ : St} {H : Hp} {s : Shared} {a : Addr} {ks : List Str} (I : Inv X pins σ H s) (ha : H a = some (StrSet X.w a ks)) : SX.SetS X.w s.heap a ks := (I.hok a _ ha).1
def rSetTx (w : World) : List V → Hp → VK → Prop := fun vs H Q => ∃ x, vs = [.str x] ∧ x.cps.size ≤ 1000 ∧ ∀ p, H p = none → Q (.ref p) (upd H p (StrSet w p (SX.metS x x.cps.size)))
theorem cr_setTx (hc : X.calm = true) : CallR X (.type "set") (rSetTx X.w) := by
  intro pins s σ H xs us Q I r h
  obtain ⟨x, rfl, hx, q⟩ := h
  cases r with
  | cons r rr =>
    cases rr
    obtain ⟨t, rfl⟩ := r
    refine SX.set_of_text (P := X.prog) (w := X.w) (I.ok.hd hc) (by have e : scanBound = 4096 := rfl; omega) fun h' tk R kp => ?_
    exact ⟨.ref s.heap.objs.size, _, I.laid (t' := tk) kp (Nat.le_refl _) (strSet_new R), rfl, q _ (I.hok.fresh (Nat.le_refl _))⟩
def rSortedTx (w : World) : List V → Hp → VK → Prop := fun vs H Q => ∃ a ks, vs = [.ref a] ∧ H a = some (StrSet w a ks) ∧ ks.length < 64 ∧
  ∀ (ys : List Str) (p : Addr), ys.Perm ks → sortedS ys = true → H p = none → Q (.ref p) (upd H p (.lst (ys.map V.str)))
theorem cr_sortedTx (hc : X.calm = true) : CallR X (.builtin "sorted") (rSortedTx X.w) := by
  intro pins s σ H vs us Q I r h
  obtain ⟨a, ks, rfl, ha, few, q⟩ := h
  have R := strSet_get I ha
  rw [Vals.ref1 r]
  refine SX.sorted_of_set (P := X.prog) R (I.ok.hd hc) few fun s' p out c ys k g o hp hg hi pm so => ?_
  have yl : (ys.map V.str).length ≤ sizeLine := by rw [List.length_map, pm.length_eq, sizeLine_eq]; omega
  have fp : H p = none := I.hok.fresh hp
  have J : Inv X pins σ (upd H p (.lst (ys.map V.str))) { s with heap := s'.heap, gens := s'.gens, drawn := s'.drawn, toks := s'.toks } :=
    I.call (ch := []) (Un.laid k hp fp) (I.hok.laid k hp ⟨yl, out.toList, c, vals_of_strs hi, hg⟩) (by rw [g]; exact I.bare) (fun _ z => nomatch z)
  have e : s' = { s with heap := s'.heap, gens := s'.gens, drawn := s'.drawn, toks := s'.toks } := by
    cases s'
    cases s
    cases o
    rfl
  rw [e]
  exact ⟨.ref p, _, J, rfl, q ys p pm so fp⟩
/-- sorted(set(x)) -/
def tSortSet (te : TE) : TE := fun σ H Q => te σ H fun v H1 => ∃ x, v = .str x ∧ x.cps.size ≤ 60 ∧ ∀ (p q : Addr) (o : HO) (ys : List Str), H1 p = none → q ≠ p → H1 q = none → ys.Perm (SX.metS x x.cps.size) → sortedS ys = true →
  Q (.ref q) (upd (upd H1 p o) q (.lst (ys.map V.str)))
def tMn (te : TE) : TE := fun σ H Q => ∃ Q0 : VK, te σ H Q0 ∧ ∀ v H1, Q0 v H1 → Q v H1
theorem pe_mn {e : Expr} {te : TE} (he : PE X e te) : PE X e (tMn te) := ⟨fun pins s σ H Q I h => by
  obtain ⟨Q0, h0, h1⟩ := h
  exact thn (he.run pins s σ H Q0 I h0) fun _ _ ⟨v, H1, I1, r1, z⟩ => ⟨v, H1, I1, r1, h1 v H1 z⟩⟩
theorem pe_sortSet {e : Expr} {te : TE} {p1 p2 pos1 pos2 : Pos} (hc : X.calm = true) (g1 : Gl X "sorted") (m1 : X.mg "sorted" = none) (g2 : Gl X "set") (m2 : X.mg "set" = none) (he : PE X e te)
    (s2 : starEach [e] X.env = (false, eval e X.env) :: starEach [] X.env := by rfl) (s1 : starEach [.Call (.Name "set" p2) [e] [] pos2] X.env = (false, eval (.Call (.Name "set" p2) [e] [] pos2) X.env) :: starEach [] X.env := by rfl) :
    PE X (.Call (.Name "sorted" p1) [.Call (.Name "set" p2) [e] [] pos2] [] pos1) (tSortSet te) := by
  have inner : PE X (.Call (.Name "set" p2) [e] [] pos2) (tCB (rSetTx X.w) (tCons (tMn te) tNil)) := pe_callTy (cr_setTx hc) g2 m2 (by decide +kernel) (pa_cons (pe_mn he) pa_nil (hs := s2)) (he := s2)
  have outer : PE X (.Call (.Name "sorted" p1) [.Call (.Name "set" p2) [e] [] pos2] [] pos1) (tCB (rSortedTx X.w) (tCons (tCB (rSetTx X.w) (tCons (tMn te) tNil)) tNil)) := pe_callB (cr_sortedTx hc) g1 m1 (by decide +kernel) (pa_cons inner pa_nil (hs := s1)) (he := s1)
  refine ⟨fun pins s σ H Q I h => outer.run pins s σ H Q I ?_⟩
  refine ⟨_, h, ?_⟩
  rintro v H1 ⟨x, rfl, hx, q⟩
  refine ⟨x, rfl, Nat.le_trans hx (by decide), fun p hp => ?_⟩
  refine ⟨p, _, rfl, upd_same, Nat.lt_of_le_of_lt (SX.metS_len x _) (Nat.lt_of_le_of_lt hx (by decide)), fun ys p9 pm so hq => ?_⟩
  have nq : p9 ≠ p := fun z => by rw [z, upd_same] at hq; cases hq
  exact q p p9 _ ys hp nq (by rw [upd_ne nq] at hq; exact hq) pm so
end
end L2

/-! dicts: what gen.py names for them -/
namespace L2
open PySem PySem.Spec PyProof.Rows
theorem Room.u1 {k : Nat} {A : Around} (r : Room k A) : A.units + 1 < cLine := by have := r.units; omega
theorem Room.u65 {k : Nat} {A : Around} (r : Room k A) : A.units + 65 < cLine := by have := r.un; omega
end L2

/-! sorted(xs) of data that are alike (ints, texts, tuples of them), any number of them: the one stable order -/
namespace L2
open PySem PySem.Spec PyProof.Rows
/-- the items with what they read as, in order -/
def srtD (zs : List (V × PyData)) : List (V × PyData) := zs.mergeSort (PySem.W.dataLe false fun z => z.2)
theorem each_vals {X : Cx} {pins : List (Addr × Obj)} {σ : St} {H : Hp} {s : Shared} (I : Inv X pins σ H s) : ∀ (zs : List (V × PyData)) (us : List Value), Vals (zs.map (·.1)) us → (∀ z ∈ zs, Dp X.K H z.1 z.2) →
    PySem.W.EachIs (fun (u : Value) (z : V × PyData) => RelV z.1 u) us zs ∧ PySem.W.EachIs (fun (u : Value) (z : V × PyData) => ∃ as, Reads s.heap u z.2 as) us zs
  | [], us, r, _ => by
    cases r
    exact ⟨.nil, .nil⟩
  | z :: zs, us, r, hd => by
    cases r with
    | cons r1 r2 =>
      obtain ⟨h1, h2⟩ := each_vals I zs _ r2 fun y hy => hd y (List.mem_cons_of_mem _ hy)
      exact ⟨.cons r1 h1, .cons (Dp.reads I _ _ _ (hd z List.mem_cons_self) r1) h2⟩
theorem vals_each : ∀ (zs : List (V × PyData)) (us : List Value), PySem.W.EachIs (fun (u : Value) (z : V × PyData) => RelV z.1 u) us zs → Vals (zs.map (·.1)) us
  | [], us, r => by
    cases r
    exact .nil
  | z :: zs, us, r => by
    cases r with
    | cons r1 r2 => exact .cons r1 (vals_each zs _ r2)
def rSortedD (K : PySem.W.Frag) : List V → Hp → VK → Prop := fun vs H Q => ∃ (a : Addr) (zs : List (V × PyData)), vs = [V.ref a] ∧ SqL K H a (zs.map (·.1)) ∧ (∀ z ∈ zs, Dp K H z.1 z.2) ∧
  PySem.W.AllAlike (zs.map (·.2)) ∧ PySem.W.Sortable (zs.map (·.2)) ∧ (∀ z ∈ zs, z.2.depth ≤ 8) ∧ ∀ p : Addr, H p = none → Q (.ref p) (upd H p (.lst ((srtD zs).map (·.1))))
theorem cr_sortedD {X : Cx} (hu : X.A.units + 64 < cLine) : CallR X (.builtin "sorted") (rSortedD X.K) := by
  intro pins s σ H vs us Q I r h
  obtain ⟨a, zs, rfl, hs, hd, al, so, dp, q⟩ := h
  obtain ⟨its, rv, hl, hz⟩ := I.list hs
  rw [Vals.ref1 r]
  obtain ⟨e1, e2⟩ := each_vals I zs its rv hd
  have hz2 : zs.length ≤ sizeLine := by rw [List.length_map] at hz; exact hz
  refine PySem.W.sorted_data (enc := fun z : V × PyData => z.2) (bs := zs) hl.isList e1 e2 al so hz2 (fun b hb => by have := dp b hb; omega) fun out hlen eo => ?_
  obtain ⟨ep, he'⟩ := PyProof.Rows.sortedAll_at s.heap its out.toArray
  have hv := vals_each _ _ eo
  have hlen2 : ((srtD zs).map (·.1)).length ≤ sizeLine := by
    have e := hv.length
    show ((zs.mergeSort (PySem.W.dataLe false fun z => z.2)).map (·.1)).length ≤ sizeLine
    rw [e, hlen]
    exact hz2
  exact ⟨.ref _, upd H (s.heap.objs.size + 1) (.lst ((srtD zs).map (·.1))), I.laid (t' := s.toks) (fun _ _ => PyProof.Rows.sortedAll_old) (Nat.le_succ _) ⟨hlen2, out, ep, hv, he'⟩, rfl, q _ (I.hok.fresh (Nat.le_succ _))⟩
/-! ### the order in plain words -/
theorem srtD_perm (zs : List (V × PyData)) : (srtD zs).Perm zs := List.mergeSort_perm _ _
end L2

/-! sorted(xs, key=len) of texts -/
namespace L2
open PySem PySem.Spec PyProof.Rows
/-- texts by their length, stable -/
def srtLen (ss : List Str) : List Str := ss.mergeSort (PySem.W.dataLe false fun x => .int (x.length : Int))
def tSortLen (K : PySem.W.Frag) (te : TE) : TE := fun σ H Q => te σ H fun v H1 => ∃ (a : Addr) (ss : List Str), v = V.ref a ∧ SqL K H1 a (ss.map V.str) ∧ (∀ x ∈ ss, x.length ≤ 1000000) ∧ ∀ p : Addr, H1 p = none → Q (.ref p) (upd H1 p (.lst ((srtLen ss).map V.str)))
theorem vals_strEach : ∀ {ss : List Str} {us : List Value}, Vals (ss.map V.str) us → PySem.W.EachIs (fun (u : Value) (x : Str) => RelV (.str x) u) us ss
  | [], _, .nil => .nil
  | _ :: _, _, .cons r t => .cons r (vals_strEach t)
theorem vals_ofStrEach : ∀ {ss : List Str} {us : List Value}, PySem.W.EachIs (fun (u : Value) (x : Str) => RelV (.str x) u) us ss → Vals (ss.map V.str) us
  | [], _, .nil => .nil
  | _ :: _, _, .cons r t => .cons r (vals_ofStrEach t)
theorem pe_sortLen {X : Cx} {e : Expr} {te : TE} {p1 p2 pos kpos : Pos} (hu : X.A.units + 64 < cLine) (g1 : Gl X "sorted") (m1 : X.mg "sorted" = none) (g2 : Gl X "len") (m2 : X.mg "len" = none) (he : PE X e te)
    (hall : (backToKw pos (keywordEach [⟨some (Str.ofString "key"), .Name "len" p2, kpos⟩] X.env)).all (·.1.isSome) = true := by rfl) (hnone : (backToKw pos (keywordEach [⟨some (Str.ofString "key"), .Name "len" p2, kpos⟩] X.env)).any (·.1.isNone) = false := by rfl)
    (hks : (backToKw pos (keywordEach [⟨some (Str.ofString "key"), .Name "len" p2, kpos⟩] X.env)).filterMap (·.1) = [Str.ofString "key"] := by rfl)
    (hst : starEach [e] X.env = (false, eval e X.env) :: starEach [] X.env := by rfl)
    (hbt : backTo pos (starEach [e] X.env) = (false, eval e X.env) :: backTo pos (starEach [] X.env) := by rfl) (hpl : (backTo pos (starEach [e] X.env)).any (·.1) = false := by rfl) :
    PE X (.Call (.Name "sorted" p1) [e] [⟨some (Str.ofString "key"), .Name "len" p2, kpos⟩] pos) (tSortLen X.K te) := by
  refine ⟨fun pins s σ H Q I h => ?_⟩
  refine wpAny_Call_Name_kw (ld_blt I g1 m1 boot_sorted ?_)
  refine PyProof.Rows.callWith_kw (thn ((pa_cons he pa_nil (hs := hst)).run pos pins s σ H (fun vs H1 => match vs with | [v] => ∃ (a : Addr) (ss : List Str), v = V.ref a ∧ SqL X.K H1 a (ss.map V.str) ∧ (∀ x ∈ ss, x.length ≤ 1000000) ∧ ∀ p : Addr, H1 p = none → Q (.ref p) (upd H1 p (.lst ((srtLen ss).map V.str))) | _ => False) I h) fun us s1 ⟨vs, H1, I1, r1, q1⟩ => ?_) hbt hpl hall hnone
  match vs, r1, q1 with
  | [_], .cons r1 .nil, ⟨a, ss, ev, hs, hlen, q⟩ =>
  subst ev
  cases (show _ = Value.ref a from r1)
  show wpAny _ _ (evalAll ((backToKw pos (keywordEach [⟨some (Str.ofString "key"), .Name "len" p2, kpos⟩] X.env)).map (·.2))) _ _ s1
  show wpAny _ _ (evalAll [(do let v ← eval (.Name "len" p2) X.env; standAt pos; pure v)]) _ _ s1
  refine wpAny_evalAll_cons (wpAny_bind (ld_blt I1 g2 m2 boot_len (wpAny_bind (wpAny_standAt (wpAny_pure ?_)))))
  refine wpAny_evalAll_nil ?_
  rw [hks]
  obtain ⟨its, rv, hl, hz⟩ := I1.list hs
  rw [List.length_map] at hz
  refine PySem.W.sorted_key_data (β := Str) (b := false) (f := .builtin "len") (fun x => .int (x.length : Int)) (R := fun u x => RelV (.str x) u) hl.isList (vals_strEach rv) (fun d hd d' hd' => ?_) (.inr fun d hd => ?_) hz (fun x hx => ?_) (PyProof.Rows.ksk_s1 _ _) (fun _ => PyProof.Rows.ksk_l1 _ _) (fun x => ?_) (fun v x r hx hh tk kp => ?_) fun out c h' tk kp hn ho hlo ei => ?_
  · obtain ⟨x, _, rfl⟩ := List.mem_map.mp hd
    obtain ⟨y, _, rfl⟩ := List.mem_map.mp hd'
    rfl
  · obtain ⟨x, _, rfl⟩ := List.mem_map.mp hd
    exact ⟨(fun z => nomatch z), fun xs z => nomatch z⟩
  · show X.A.units + 2 + (PyData.int (x.length : Int)).depth < cLine
    simp only [PyData.depth]
    omega
  · exact PyProof.Rows.ksk_t4 "len" x
  · obtain ⟨t, rfl⟩ := r
    refine PyProof.Rows.len_str ?_ ⟨hh, _, rfl, fun b o e => e, .int _ _⟩
    have := hlen x hx
    omega
  · have hv := vals_ofStrEach ei
    have hl2 : ((srtLen ss).map V.str).length ≤ sizeLine := by
      have e := hv.length
      show ((ss.mergeSort (PySem.W.dataLe false fun x => .int (x.length : Int))).map V.str).length ≤ sizeLine
      rw [e, hlo]
      exact hz
    exact ⟨.ref _, upd H1 (s1.heap.objs.size + 1) (.lst ((srtLen ss).map V.str)), I1.laid (t' := tk) kp (Nat.le_succ _) ⟨hl2, out, c, hv, ho⟩, rfl, q _ (I1.hok.fresh (Nat.le_succ _))⟩
end L2

/-! sets of data, made from a list or by a comprehension, and sorted(..) of them: one frame for all kinds of members -/
namespace L2
open PySem PySem.Spec PyProof.Rows
namespace SetX
/-- L' is L with m, unless its datum is there -/
def Added {M : Type} (dat : M → PyData) (L : List M) (m : M) (L' : List M) : Prop := ((∃ x ∈ L, dat x = dat m) ∧ L' = L) ∨ ((∀ x ∈ L, dat x ≠ dat m) ∧ L'.Perm (m :: L))
/-- L holds each datum of zs once -/
structure Got {M : Type} (dat : M → PyData) (zs L : List M) : Prop where
  sub : ∀ x ∈ L, x ∈ zs
  all : ∀ z ∈ zs, ∃ x ∈ L, dat x = dat z
  nd : (L.map dat).Nodup
  len : L.length ≤ zs.length
theorem Got.zero {M : Type} {dat : M → PyData} : Got dat [] [] := ⟨fun _ h => h, fun _ h => (nomatch h), List.Pairwise.nil, Nat.le_refl _⟩
theorem Got.step {M : Type} {dat : M → PyData} {zs L L' : List M} {m : M} (g : Got dat zs L) (a : Added dat L m L') : Got dat (zs ++ [m]) L' := by
  rcases a with ⟨⟨x, hx, e⟩, rfl⟩ | ⟨n, p⟩
  · refine ⟨fun y hy => List.mem_append_left _ (g.sub y hy), fun z hz => ?_, g.nd, by rw [List.length_append]; exact Nat.le_trans g.len (Nat.le_add_right _ _)⟩
    rcases List.mem_append.mp hz with h | h
    · exact g.all z h
    · rw [List.mem_singleton.mp h]; exact ⟨x, hx, e⟩
  · refine ⟨fun y hy => ?_, fun z hz => ?_, ?_, by rw [p.length_eq, List.length_append, List.length_cons]; exact Nat.succ_le_succ g.len⟩
    · rcases List.mem_cons.mp (p.mem_iff.mp hy) with h | h
      · rw [h]; exact List.mem_append_right _ List.mem_cons_self
      · exact List.mem_append_left _ (g.sub y h)
    · rcases List.mem_append.mp hz with h | h
      · obtain ⟨x, hx, e⟩ := g.all z h
        exact ⟨x, p.mem_iff.mpr (List.mem_cons_of_mem _ hx), e⟩
      · rw [List.mem_singleton.mp h]; exact ⟨m, p.mem_iff.mpr List.mem_cons_self, rfl⟩
    · refine (p.map dat).nodup_iff.mpr (List.nodup_cons.mpr ⟨fun h => ?_, g.nd⟩)
      obtain ⟨x, hx, e⟩ := List.mem_map.mp h
      exact n x hx e
/-- a kind of members: what they are in a heap, and what the machine does with a set of them -/
structure Kit (P : Program) (w : World) where
  M : Type
  dat : M → PyData
  val : M → V
  Is : Heap → M → Value → Prop
  lim : Nat
  hash : M → Int
  St : Heap → Addr → List M → Prop
  IsH : PySem.W.Frag → Hp → M → Prop
  limOk : lim ≤ sizeLine
  rel : ∀ {h m u}, Is h m u → RelV (val m) u
  keep : ∀ {h h' m u}, Is h m u → (∀ b o, h.get? b = some o → h'.get? b = some o) → Is h' m u
  reads : ∀ {h m u}, Is h m u → Reads h u (dat m) []
  there : ∀ {h a L}, St h a L → ∃ o, h.get? a = some o
  stay : ∀ {h h' a L}, St h a L → (∀ o, h.get? a = some o → h'.get? a = some o) → St h' a L
  fresh : ∀ {h a}, h.get? a = some { cls := .type "set", dict := none, data := .set #[] 0 (.fresh 0 0 (!w.params.followText "set-order")) } → St h a []
  typ : ∀ {s : Shared} {a L}, St s.heap a L → s.TypeIs (.ref a) "set"
  hashing : ∀ {A : Around} {E : Value → Shared → Prop} {s : Shared} {Q : Int → Shared → Prop} {m u}, A.units + 8 < cLine → Is s.heap m u → (∀ tk, s.toks ≤ tk → Q (hash m) { s with toks := tk }) → wpAny (model P w) A (pyHash u) Q E s
  add : ∀ {A : Around} {E : Value → Shared → Prop} {s : Shared} {Q : Bool → Shared → Prop} {a L m u}, A.units + 8 < cLine → St s.heap a L → (∀ x ∈ L, ∃ v, Is s.heap x v) → Is s.heap m u → L.length + 1 < lim →
    (∀ h' b L', Heap.SameBut a s.heap h' → St h' a L' → Added dat L m L' → Q b { s with heap := h' }) → wpAny (model P w) A (setAddHashed a u (hash m)) Q E s
  coll : ∀ {A : Around} {E : Value → Shared → Prop} {s : Shared} {Q : List Value → Shared → Prop} {a L}, A.handled = none → St s.heap a L → L.length < lim → (∀ x ∈ L, ∃ v, Is s.heap x v) →
    (∀ s' vs L', (∀ b o, s.heap.get? b = some o → s'.heap.get? b = some o) → s.heap.objs.size ≤ s'.heap.objs.size → s'.gens = s.gens → s'.os = s.os → L'.Perm L → PySem.W.EachIs (fun v m => Is s.heap m v) vs L' → Q vs s') →
    wpAny (model P w) A (collect (.ref a)) Q E s
  isOf : ∀ {X : Cx} {pins : List (Addr × Obj)} {σ : L2.St} {H : Hp} {s : Shared} {m u}, X.prog = P → X.w = w → Inv X pins σ H s → IsH X.K H m → RelV (val m) u → Is s.heap m u
  keepH : ∀ {K : PySem.W.Frag} {H H' : Hp} {m}, IsH K H m → Same H H' → IsH K H' m
section
variable {P : Program} {w : World} {A : Around} {E : Value → Shared → Prop} {s : Shared} {a : Addr}
/-- set.update's loop over a list of members -/
theorem loop_kit (T : Kit P w) {I : Addr} {fp wr : List Addr} {G : Array GenState → Array GenState → Prop} {n : Nat} {Pv : Nat → Value → Prop} {Sv : Nat → Shared → Prop} {R : Result → Shared → Prop}
    (W : WalksS P w A.in1 I fp wr G n Pv Sv) (D : Addr) (nD : D ∉ fp) (zs : List T.M) (hn : n = zs.length) (bd : zs.length + 1 < T.lim) (g0 : Heap) (hv : ∀ i v, Pv i v → ∃ z, zs[i]? = some z ∧ T.Is g0 z v)
    (hz : ∀ z ∈ zs, ∃ v, T.Is g0 z v) (d0 : g0.get? D = none) (w0 : ∀ b ∈ wr, g0.get? b = none) (hu : A.in1.units + 8 < cLine) :
    ∀ (m i : Nat) (s : Shared), n - i = m → i ≤ n → Sv i s → (∀ b o, g0.get? b = some o → s.heap.get? b = some o) → (∃ L, T.St s.heap D L ∧ Got T.dat (zs.take i) L) →
      (∀ s' L, Moved (D :: wr) G s s' → T.St s'.heap D L → Got T.dat zs L → (∀ b o, g0.get? b = some o → s'.heap.get? b = some o) → R (.ok (.ret .none)) s') →
      codeAny (model P w) A (.builtin "set.update.loop" ⟨[.ref D, .ref I], []⟩) R s := by
  have nw : D ∉ wr := fun z => nD (W.sub _ z)
  have sub : ∀ b ∈ wr, b ∈ D :: wr := fun b z => List.mem_cons_of_mem _ z
  have kpM : ∀ {s s' : Shared}, Moved wr G s s' → (∀ b o, g0.get? b = some o → s.heap.get? b = some o) → ∀ b o, g0.get? b = some o → s'.heap.get? b = some o := fun mv k b o e =>
    mv.heap b o (fun z => by rw [w0 b z] at e; cases e) (k b o e)
  intro m
  induction m with
  | zero =>
    intro i s hm hi st kp ⟨L, hS, g⟩ hR
    have ei : i = n := by omega
    subst ei
    refine codeAny_builtin F.entry_set_update_loop ?_
    rw [Around.under_plainId F.plain_set_update_loop _]
    show wpAny _ A.in1 (pyNext (.ref I) >>= _) _ _ s
    refine wpAny_bind (W.done s _ _ st fun s' mv => wpAny_pure (hR s' L (mv.mono sub) (T.stay hS fun o e => mv.heap D o nw e) ?_ (kpM mv kp)))
    rw [hn, List.take_length] at g
    exact g
  | succ m ih =>
    intro i s hm hi st kp ⟨L, hS, g⟩ hR
    have lt : i < n := by omega
    refine codeAny_builtin F.entry_set_update_loop ?_
    rw [Around.under_plainId F.plain_set_update_loop _]
    show wpAny _ A.in1 (pyNext (.ref I) >>= _) _ _ s
    refine wpAny_bind (W.item i s _ _ lt st fun v s' hP st' mv => ?_)
    obtain ⟨z, ez, iz⟩ := hv i v hP
    have kp' := kpM mv kp
    have hS' := T.stay (h' := s'.heap) hS fun o e => mv.heap D o nw e
    show wpAny _ A.in1 (holding [v] (setAdd D v) >>= _) _ _ s'
    refine wpAny_bind (wpAny_holding ?_)
    unfold setAdd
    refine wpAny_holding (wpAny_bind (T.hashing hu (T.keep iz kp') fun tk ht => ?_))
    refine T.add (s := { s' with toks := tk }) hu hS' (fun x hx => ?_) (T.keep iz kp') (by have := g.len; rw [List.length_take] at this; omega) fun h' b L' sb hS2 ad => ?_
    · obtain ⟨u, q⟩ := hz x (List.mem_of_mem_take (g.sub x hx))
      exact ⟨u, T.keep q kp'⟩
    have g2 := g.step ad
    have et : zs.take i ++ [z] = zs.take (i + 1) := by
      obtain ⟨hi2, e2⟩ := List.getElem?_eq_some_iff.mp ez
      rw [List.take_succ_eq_append_getElem hi2, e2]
    rw [et] at g2
    have kp2 : ∀ b o, g0.get? b = some o → h'.get? b = some o := fun b o e => (sb.2 b (fun q => by rw [q, d0] at e; cases e)).trans (kp' b o e)
    refine wpAny_pure ⟨plainId_quiet F.plain_set_update_loop _, ih (i + 1) _ (by omega) lt (W.frame _ s' _ _ st' ht fun b hb o e => ?_) kp2 ⟨L', hS2, g2⟩ fun s2 L2 mv2 hS3 g3 kp3 => ?_⟩
    · rw [sb.2 b (fun q : b = D => nD (by rw [← q]; exact hb))]
      exact e
    · refine hR s2 L2 (Moved.trans W.gtrans ((mv.mono sub).then_heap ht fun b o hb e => ?_) mv2) hS3 g3 kp3
      rw [sb.2 b (fun q : b = D => hb (by rw [q]; exact List.mem_cons_self))]
      exact e
set_option maxHeartbeats 6400000 in
theorem set_of_list (T : Kit P w) {l : Addr} {its : Array Value} (zs : List T.M) {Q : Value → Shared → Prop} (hh : A.handled = none) (hl : s.heap.IsList l its) (he : PySem.W.EachIs (fun v m => T.Is s.heap m v) its.toList zs)
    (bd : zs.length + 1 < T.lim) (hu : A.units + 12 < cLine)
    (q : ∀ (h' : Heap) (tk : Nat) L, T.St h' s.heap.objs.size L → Got T.dat zs L → (∀ b o, s.heap.get? b = some o → h'.get? b = some o) → Q (.ref s.heap.objs.size) { s with heap := h', toks := tk }) :
    wpAny (model P w) A (call (.type "set") [.ref l]) Q E s := by
  have zl : its.size = zs.length := by rw [← Array.length_toList]; exact he.length
  obtain ⟨c, tl, hmro⟩ := F.called_set.mro
  have k1 := F.called_set.made
  have k2 := F.called_set.sub
  refine wpAny_call (codeAny_of_tree ?_)
  show wpAny _ _ (callAny (.type "set") _) _ _ _
  refine wpAny_pure ⟨Code.quiet_builtin _ (by decide +kernel), codeAny_builtin F.entry_type_call ?_⟩
  rw [Around.under_plain (weight_type_call_type "set" [.ref l] []) rfl]
  have k3 := F.called_set.notType
  have k4 := F.called_set.canCreate
  have k5 := F.typeCall_set_1 (.ref l)
  repeat (any_goals (first | assumption | wp_step))
  refine codeAny_mono (code_set_led1 (.ref l) (E := E) (Q₁ := fun ob s9 => ob = .ref s.heap.objs.size ∧ s9 = { s with heap := s.heap.push { cls := .type "set", dict := none, data := .set #[] 0 (.fresh 0 0 (!w.params.followText "set-order")) } }) ⟨rfl, rfl⟩) fun r s9 hr => ?_
  cases r with
  | error e => exact hr
  | ok fl =>
    cases fl with
    | ret ob =>
      obtain ⟨rfl, rfl⟩ := hr
      have oS : (s.heap.push { cls := .type "set", dict := none, data := .set #[] 0 (.fresh 0 0 (!w.params.followText "set-order")) }).get? s.heap.objs.size = some { cls := .type "set", dict := none, data := .set #[] 0 (.fresh 0 0 (!w.params.followText "set-order")) } := Heap.get?_push_size _ rfl
      have tS : Shared.TypeIs { s with heap := s.heap.push { cls := .type "set", dict := none, data := .set #[] 0 (.fresh 0 0 (!w.params.followText "set-order")) } } (.ref s.heap.objs.size) "set" := ⟨_, oS, rfl⟩
      have k6 := F.called_set.init.lookup
      have k7 := F.called_set.init.bind (.ref s.heap.objs.size)
      repeat (any_goals (first | assumption | wp_step))
      refine codeAny_mono (codeAny_call_builtin (R := wants (fun r s2 => r = .none ∧ ∃ h' tk L, s2 = { s with heap := h', toks := tk } ∧ T.St h' s.heap.objs.size L ∧ Got T.dat zs L ∧
          (∀ b o, s.heap.get? b = some o → h'.get? b = some o)) E) F.called_set.init.plain F.entry_set_init (check_set_init_1 tS ?_)) fun r2 s2 hr2 => ?_
      · obtain ⟨lo, glo, lcl, ln, ldt⟩ := hl
        obtain ⟨lc, ld, lda, lsl⟩ := lo
        simp only at lcl ldt
        subst lcl; subst ldt
        have glo2 : (s.heap.push { cls := .type "set", dict := none, data := .set #[] 0 (.fresh 0 0 (!w.params.followText "set-order")) }).get? l = some { cls := .type "list", dict := ld, data := .seq its ln, slots := lsl } := Heap.get?_push_of_some _ glo
        have k8 := F.sub_list_set
        have k9 := F.sub_list_frozenset
        have ne : (Value.type "list" == Value.type "dict") = false := by decide
        have il : (s.heap.push { cls := .type "set", dict := none, data := .set #[] 0 (.fresh 0 0 (!w.params.followText "set-order")) }).IsList l its := ⟨_, glo2, rfl, ln, rfl⟩
        unfold Builtin.«set.__init__» noKeywords Builtin.Frozenset.updateFrom
        generalize hPI : pyIter = PI
        wp_walk
        subst hPI
        refine wpAny_pyIter_list il ?_
        refine wpAny_bind (wpAny_runValue ?_)
        have llt : l < s.heap.objs.size := Heap.lt_size glo
        have h3 : A.in1.in1.in1.handled = none := by simp [hh]
        generalize hH : s.heap.push { cls := .type "set", dict := none, data := .set #[] 0 (.fresh 0 0 (!w.params.followText "set-order")) } = H at il oS glo2 ⊢
        have hz : H.objs.size = s.heap.objs.size + 1 := by rw [← hH, Heap.size_push]
        have neI : l ≠ H.objs.size := by rw [hz]; exact Nat.ne_of_lt (Nat.lt_succ_of_lt llt)
        have nD : s.heap.objs.size ∉ [H.objs.size, l] := fun z => by
          rcases List.mem_cons.mp z with z | z
          · rw [hz] at z
            exact Nat.ne_of_lt (Nat.lt_succ_self _) z
          · exact Nat.ne_of_gt llt (List.mem_singleton.mp z)
        have up : ∀ b o, s.heap.get? b = some o → H.get? b = some o := fun b o e => by rw [← hH]; exact Heap.get?_push_of_some _ e
        have hole : ∀ b, s.heap.objs.size ≤ b → s.heap.get? b = none := fun b hb => Heap.get?_none_of_le hb
        refine loop_kit T ((Walks.list h3 _ l neI its).toS) s.heap.objs.size nD zs zl bd s.heap (fun i v e => ?_) (fun z hzm => ?_) (hole _ (Nat.le_refl _)) (fun b hb => hole b ?_) (by simp only [Around.in1_units]; omega)
          (its.size - 0) 0 _ rfl (Nat.zero_le _) ⟨⟨_, Heap.get?_push_size _ rfl, rfl, rfl⟩, il.push _⟩ (fun b o e => Heap.get?_push_of_some _ (up b o e)) ⟨[], T.fresh (Heap.get?_push_of_some _ oS), Got.zero⟩ fun s' L mv hS' g' kp => ?_
        · have e : its[i]? = some v := e
          have e2 : its.toList[i]? = some v := by rw [Array.getElem?_toList]; exact e
          have hi : i < its.toList.length := (List.getElem?_eq_some_iff.mp e2).1
          have hi2 : i < zs.length := by rw [← he.length]; exact hi
          refine ⟨zs[i], List.getElem?_eq_getElem hi2, ?_⟩
          exact he.zip (v, zs[i]) (List.mem_of_getElem? (i := i) (by rw [List.getElem?_zip_eq_some]; exact ⟨e2, List.getElem?_eq_getElem hi2⟩))
        · obtain ⟨i, hi, e⟩ := List.mem_iff_getElem.mp hzm
          have hi2 : i < its.toList.length := by rw [he.length]; exact hi
          exact ⟨its.toList[i], he.zip (its.toList[i], z) (List.mem_of_getElem? (i := i) (by rw [List.getElem?_zip_eq_some]; exact ⟨List.getElem?_eq_getElem hi2, by rw [← e]; exact List.getElem?_eq_getElem hi⟩))⟩
        · rw [List.mem_singleton.mp hb, hz]
          exact Nat.le_succ _
        · obtain ⟨h', g2, d2, tk2, os2⟩ := s'
          have eg : g2 = s.gens := mv.gens
          have ed : d2 = s.drawn := mv.drawn
          have eo : os2 = s.os := mv.os
          subst eg; subst ed; subst eo
          exact wpAny_pure (wpAny_pure ⟨rfl, h', tk2, L, rfl, hS', g', kp⟩)
      · cases r2 with
        | error e => exact hr2
        | ok f2 =>
          cases f2 with
          | ret r =>
            obtain ⟨rfl, h', tk, L, rfl, hS', g', kp⟩ := hr2
            repeat (any_goals (first | assumption | wp_step))
            exact q _ _ _ hS' g' kp
          | _ => exact hr2.elim
    | _ => exact hr.elim
theorem each_perm {α β : Type} {R : α → β → Prop} {vs : List α} {L : List β} (e : PySem.W.EachIs R vs L) : vs.length = L.length := e.length
theorem sorted_kit (T : Kit P w) {L : List T.M} {Q : Value → Shared → Prop} (R : T.St s.heap a L) (hI : ∀ x ∈ L, ∃ v, T.Is s.heap x v) (hh : A.handled = none) (few : L.length < T.lim) (hu : A.units + 12 < cLine)
    (al : PySem.W.AllAlike (L.map T.dat)) (so : PySem.W.Sortable (L.map T.dat)) (dp : ∀ x ∈ L, (T.dat x).depth ≤ 4)
    (q : ∀ s' p (out : List Value) (c : Nat) (L' : List T.M), (∀ b o, s.heap.get? b = some o → s'.heap.get? b = some o) → s'.gens = s.gens → s'.os = s.os → s.heap.objs.size ≤ p →
      s'.heap.get? p = some (seqObj "list" out.toArray c) → L'.Perm L → PySem.W.EachIs (fun v m => RelV (T.val m) v) out (L'.mergeSort (PySem.W.dataLe false T.dat)) → Q (.ref p) s') :
    wpAny (model P w) A (call (.builtin "sorted") [.ref a]) Q E s := by
  refine Calls.call_function_entry kind_sorted plain_sorted entry_sorted (args_sorted1 _) ?_
  unfold Builtin.«sorted»
  refine wpAny_bind (m := checkCount "sorted" 1 1 _) (wpAny_pure ?_)
  refine wpAny_bind (T.coll (A := A.in1) hh R few hI fun s1 vs L1 k1 hz g1 o1 pm ei => ?_)
  have vl : vs.length = L.length := by rw [ei.length, pm.length_eq]
  have zl : vs.length ≤ sizeLine := by rw [vl]; exact Nat.le_trans (Nat.le_of_lt few) T.limOk
  refine wpAny_bind (wpAny_newList ?_ zl)
  have oL : (s1.heap.push (seqObj "list" vs.toArray 0)).get? s1.heap.objs.size = some (seqObj "list" vs.toArray 0) := Heap.get?_push_size _ rfl
  have up : ∀ b o, s.heap.get? b = some o → (s1.heap.push (seqObj "list" vs.toArray 0)).get? b = some o := fun b o e => Heap.get?_push_of_some _ (k1 b o e)
  have al1 : PySem.W.AllAlike (L1.map T.dat) := fun d hd d' hd' => al d ((pm.map T.dat).mem_iff.mp hd) d' ((pm.map T.dat).mem_iff.mp hd')
  have so1 : PySem.W.Sortable (L1.map T.dat) := by
    rcases so with z | z
    · exact .inl fun d hd => z d ((pm.map T.dat).mem_iff.mp hd)
    · exact .inr fun d hd => z d ((pm.map T.dat).mem_iff.mp hd)
  have er : PySem.W.EachIs (fun v (m : T.M) => (∃ as, Reads (s1.heap.push (seqObj "list" vs.toArray 0)) v (T.dat m) as ∧ s1.heap.objs.size ∉ as)) vs L1 := by
    exact ei.mono fun v m i => ⟨[], PyProof.Rows.Reads.keeps up (T.reads i), by simp⟩
  refine wpAny_bind (wpAny_holding (PySem.W.list_sort_data (A := A.in1) (s := { s1 with heap := s1.heap.push (seqObj "list" vs.toArray 0) }) (enc := T.dat) (bs := L1) (R := fun v m => RelV (T.val m) v) oL (ei.mono fun v m i => T.rel i) er al1 so1 (by rw [pm.length_eq]; omega)
    (fun b hb => by have := dp b (pm.mem_iff.mp hb); show A.units + 1 + 1 + (T.dat b).depth < cLine; omega) fun out hlen eo => ?_))
  obtain ⟨c, hc⟩ := sortedHeap_at (vs := vs) (out := out.toArray) oL
  refine wpAny_pure ⟨_, rfl, q _ s1.heap.objs.size out c L1 (fun b u e => ?_) g1 o1 hz hc pm eo⟩
  have e1 := k1 b u e
  have lt := Heap.lt_size e1
  show (sortedHeap (s1.heap.push (seqObj "list" vs.toArray 0)) s1.heap.objs.size vs _).get? b = some u
  rw [sortedHeap_old (Nat.ne_of_lt lt) (by rw [size_push']; exact Nat.lt_succ_of_lt lt)]
  exact Heap.get?_push_of_some _ e1
end
end SetX
end L2

/-! sets of ints and texts as a Kit -/
namespace L2
open PySem PySem.Spec PyProof.Rows
namespace SetX
def kD : Key → PyData
  | .inl i => .int i
  | .inr x => .str x
theorem kD_inj {k j : Key} (h : kD k = kD j) : k = j := by
  cases k <;> cases j <;> simp [kD] at h
  · rw [h]
  · rw [h]
theorem keyIs_rel {k : Key} {u : Value} (h : keyIs k u = true) : RelV (kV k) u := by
  rcases keyIs_shape h with ⟨i, t, rfl, rfl⟩ | ⟨x, t, rfl, rfl⟩
  · exact ⟨t, rfl⟩
  · exact ⟨t, rfl⟩
theorem rel_keyIs {k : Key} {u : Value} (h : RelV (kV k) u) : keyIs k u = true := by
  cases k with
  | inl i => obtain ⟨t, rfl⟩ := h; exact keyIs_int i t
  | inr x => obtain ⟨t, rfl⟩ := h; exact keyIs_str x t
theorem keyIs_reads {h : Heap} {k : Key} {u : Value} (e : keyIs k u = true) : Reads h u (kD k) [] := by
  rcases keyIs_shape e with ⟨i, t, rfl, rfl⟩ | ⟨x, t, rfl, rfl⟩
  · exact .int i t
  · exact .str x t
def GdK (w : World) (e : Int × Value) : Prop := ∃ k, keyIs k e.2 = true ∧ e.1 = keyH w k
def unK (e : Int × Value) : Key := match e.2 with | .int i _ => .inl i | .str x _ => .inr x | _ => .inl 0
theorem unK_of {k : Key} {e : Int × Value} (h : keyIs k e.2 = true) : unK e = k := by
  unfold unK
  rcases keyIs_shape h with ⟨i, t, rfl, q⟩ | ⟨x, t, rfl, q⟩ <;> rw [q]
/-- a set of keys: its members, in the table's order -/
def SetKs (w : World) (h : Heap) (a : Addr) (ks : List Key) : Prop :=
  ∃ o es ep t, h.get? a = some o ∧ o.ExactSet ∧ o.data = .set es ep t ∧ (∀ e ∈ es.toList, GdK w e) ∧ (es.toList.map unK).Perm ks ∧ ks.Nodup ∧
    es.size < scanBound ∧ t.fits es.size = true ∧ Ris t.place.toList ∧ (w.params.followText "set-order" = true ∨ t.led = true)
section
variable {P : Program} {w : World} {A : Around} {E : Value → Shared → Prop} {s : Shared} {a : Addr} {ks : List Key}
theorem gdK_elems {l : List (Int × Value)} (g : ∀ e ∈ l, GdK w e) : ElemsOf (mixKind P w) l := fun e he => by
  obtain ⟨k, e1, e2⟩ := g e he
  refine ⟨⟨k, e1, e2⟩, ?_⟩
  rcases keyIs_shape e1 with ⟨i, t, _, q⟩ | ⟨x, t, _, q⟩ <;> rw [q] <;> rfl
theorem gdK_is {e : Int × Value} (g : GdK w e) (k : Key) : (mixKind P w).is k e.2 = true ↔ unK e = k := by
  obtain ⟨j, e1, _⟩ := g
  rw [unK_of e1, mixKind_is]
  constructor
  · intro q
    exact (mixKind P w).inj _ _ _ e1 q
  · intro q
    rw [← q]
    exact e1
theorem gdK_mem {l : List (Int × Value)} (g : ∀ e ∈ l, GdK w e) (k : Key) : k ∈ l.map unK ↔ ∃ e ∈ l, (mixKind P w).is k e.2 = true := by
  rw [List.mem_map]
  exact ⟨fun ⟨e, he, q⟩ => ⟨e, he, (gdK_is (g e he) k).2 q⟩, fun ⟨e, he, q⟩ => ⟨e, he, (gdK_is (g e he) k).1 q⟩⟩
theorem addK_end {g : Bool → Sem Unit} (gq : ∀ (b : Bool) (s9 : Shared) (Q9 : Unit → Shared → Prop), Q9 () s9 → wpAny (model P w) A (g b) Q9 E s9)
    {o : Obj} {es : Array (Int × Value)} {ep : Nat} {t : SetTable} (oa : s.heap.get? a = some o) (ox : o.ExactSet) (od : o.data = .set es ep t)
    {e1 : Array (Int × Value)} {t2 : SetTable} {ls : List Key} (q1 : ∀ e ∈ e1.toList, GdK w e) (q2 : (e1.toList.map unK).Perm ls) (q3 : ls.Nodup)
    (q4 : e1.size < scanBound) (q5 : t2.fits e1.size = true) (q6 : Ris t2.place.toList) (q7 : w.params.followText "set-order" = true ∨ t2.led = true) {wd : Bool} {R : Option Bool → Shared → Prop}
    (qR : ∀ h', Heap.SameBut a s.heap h' → SetKs w h' a ls → R (some true) { s with heap := h' }) :
    wpAny (model P w) A (do
        storeSet a e1 t2
        if (!wd && t2.tooFull) = true then do
            g (relayAll t2 e1 (SetTable.grown e1.size)).2.2
            storeSet a (relayAll t2 e1 (SetTable.grown e1.size)).1 (relayAll t2 e1 (SetTable.grown e1.size)).2.1
            pure (some true)
          else pure (some true)) R E s := by
  refine wpAny_bind (wpAny_storeSet_of oa od ?_ (fits_of_scanBound q4))
  have o1 := store_at (es' := e1) (t' := t2) oa od
  have b1 := Heap.SameBut.update s.heap a (Obj.putSet e1 t2)
  split
  · have p0 := relayAll_perm t2 e1 (SetTable.grown e1.size)
    have p1 := relayAll_fits t2 e1 (SetTable.grown e1.size)
    have p2 := relayAll_ris t2 e1 (SetTable.grown e1.size)
    have p3 := relayAll_led t2 e1 (SetTable.grown e1.size)
    generalize relayAll t2 e1 (SetTable.grown e1.size) = Y at p0 p1 p2 p3 ⊢
    obtain ⟨e2, t3, gv⟩ := Y
    dsimp only at p0 p1 p2 p3 ⊢
    have sz : e2.size = e1.size := by rw [← Array.length_toList, p0.length_eq, Array.length_toList]
    have sb : e2.size < scanBound := by rw [sz]; exact q4
    refine wpAny_bind (gq _ _ _ (wpAny_bind (wpAny_storeSet_of o1 rfl ?_ (fits_of_scanBound sb))))
    have o2 := store_at (es' := e2) (t' := t3) o1 rfl
    refine wpAny_pure (qR _ (b1.trans (Heap.SameBut.update _ a _)) ⟨_, e2, _, t3, o2, ox, rfl, fun e he => q1 e (p0.mem_iff.mp he), (p0.map unK).trans q2, q3, sb, p1, p2, ?_⟩)
    rcases q7 with z | z
    · exact .inl z
    · exact .inr (by rw [p3]; exact z)
  · exact wpAny_pure (qR _ b1 ⟨_, e1, _, t2, o1, ox, rfl, q1, q2, q3, q4, q5, q6, q7⟩)
theorem addK_one {k : Key} {u : Value} {Q : Bool → Shared → Prop} (R : SetKs w s.heap a ks) (hk : keyIs k u = true) (room : ks.length + 1 < scanBound)
    (qQ : ∀ h' b L', Heap.SameBut a s.heap h' → SetKs w h' a L' → Added kD ks k L' → Q b { s with heap := h' }) :
    wpAny (model P w) A (setAddHashed a u (keyH w k)) Q E s := by
  obtain ⟨o, es, ep, t, oa, ox, od, g, pm, nd, sbd, ft, ri, ld⟩ := R
  have isx : (mixKind P w).is k u = true := hk
  have scx : u.scannable = true := key_scan (keyIs_rel hk)
  have els : ElemsOf (mixKind P w) es.toList := gdK_elems g
  have esz : es.size = ks.length := by have := pm.length_eq; rw [List.length_map, Array.length_toList] at this; exact this
  unfold setAddHashed setAddHashedIn
  refine wpAny_holding (wpAny_bind (wpAny_setState_of oa od ft ?_))
  dsimp only
  rw [byScan_of scx sbd els]
  simp only [↓reduceIte]
  unfold setAddByScan
  refine wpAny_bind (wpAny_bind (wpAny_rule ?_))
  refine wpAny_bind (wpAny_setScan_of (knd := mixKind P w) isx oa od ft els ?_)
  cases hf : List.findIdx? (fun e => (mixKind P w).is k e.2) es.toList with
  | some j =>
    dsimp only
    obtain ⟨hj, pj, _⟩ := List.findIdx?_eq_some_iff_getElem.mp hf
    have inx : k ∈ ks := pm.mem_iff.mp ((gdK_mem (P := P) g k).2 ⟨es.toList[j], List.getElem_mem hj, pj⟩)
    refine wpAny_pure (wpAny_pure ?_)
    exact qQ s.heap false ks (Heap.SameBut.refl a s.heap) ⟨o, es, ep, t, oa, ox, od, g, pm, nd, sbd, ft, ri, ld⟩ (.inl ⟨⟨k, inx, rfl⟩, rfl⟩)
  | none =>
    dsimp only
    have nox : k ∉ es.toList.map unK := fun z => by
      obtain ⟨e, he, q⟩ := (gdK_mem (P := P) g k).1 z
      have c := List.findIdx?_eq_none_iff.mp hf e he
      rw [q] at c
      cases c
    have nok : k ∉ ks := fun z => nox (pm.mem_iff.mpr z)
    have gwy : ∀ (b : Bool) {s9 : Shared} {Q9 : Unit → Shared → Prop}, Q9 () s9 → wpAny (model P w) A (match b with | true => rule "set.scan.the-table-gave-way" | false => pure ()) Q9 E s9 := fun b s9 Q9 q => by
      cases b
      · exact wpAny_pure q
      · exact wpAny_rule q
    have l0 := layNew_perm t es (keyH w k) u
    have l1 := layNew_fits t es (keyH w k) u
    have l2 := layNew_ris t es (keyH w k) u ri
    have l3 := layNew_led t es (keyH w k) u
    show wpAny (model P w) A _ _ E s
    have eh : (mixKind P w).hash k = keyH w k := rfl
    generalize layNew t es (keyH w k) u = Y at l0 l1 l2 l3 ⊢
    obtain ⟨e1, t1, wd, gv⟩ := Y
    dsimp only at l0 l1 l2 l3 ⊢
    rw [Array.toList_push] at l0
    have lc : e1.toList.Perm ((keyH w k, u) :: es.toList) := l0.trans (List.perm_append_singleton _ _)
    have lk : (e1.toList.map unK).Perm (k :: ks) := by
      refine (lc.map unK).trans ?_
      rw [List.map_cons, unK_of (e := (keyH w k, u)) hk]
      exact List.Perm.cons k pm
    have g1 : ∀ e ∈ e1.toList, GdK w e := fun e he => by
      rcases List.mem_cons.mp (lc.mem_iff.mp he) with z | z
      · exact ⟨k, by rw [z]; exact hk, by rw [z]⟩
      · exact g e z
    have n1 : (k :: ks).Nodup := List.nodup_cons.mpr ⟨nok, nd⟩
    have z1 : e1.size = es.size + 1 := by rw [← Array.length_toList, lc.length_eq, List.length_cons, Array.length_toList]
    have b1 : e1.size < scanBound := by rw [z1, esz]; exact room
    have d1 : w.params.followText "set-order" = true ∨ t1.led = true := by
      rcases ld with z | z
      · exact .inl z
      · exact .inr (by rw [l3]; exact z)
    have ad : Added kD ks k (k :: ks) := .inr ⟨fun x hx e => nok (kD_inj e ▸ hx), List.Perm.refl _⟩
    refine wpAny_bind (gwy _ ?_)
    split
    · refine wpAny_bind ?_
      rw [hashByValue_scannable 8 scx]
      refine wpAny_pure ?_
      refine addK_end (ls := k :: ks) ?_ oa ox od g1 lk n1 b1 ?_ ?_ ?_ ?_
      · intro b s9 Q9 q
        cases b
        · exact wpAny_pure q
        · exact wpAny_rule q
      · first | (split <;> first | exact l1 | exact SetTable.fits_plain_off l1) | exact l1
      · first | (split <;> exact l2) | exact l2
      · first | (split <;> exact d1) | exact d1
      · intro h' sb r
        dsimp only
        exact wpAny_pure (qQ h' true _ sb r ad)
    · refine wpAny_bind (wpAny_pure ?_)
      simp only [↓reduceIte]
      refine addK_end (ls := k :: ks) ?_ oa ox od g1 lk n1 b1 l1 l2 d1 ?_
      · intro b s9 Q9 q
        cases b
        · exact wpAny_pure q
        · exact wpAny_rule q
      · intro h' sb r
        dsimp only
        exact wpAny_pure (qQ h' true _ sb r ad)
theorem freshK {h : Heap} (oa : h.get? a = some { cls := .type "set", dict := none, data := .set #[] 0 (.fresh 0 0 (!w.params.followText "set-order")) }) : SetKs w h a [] :=
  ⟨_, #[], 0, _, oa, ⟨rfl, rfl, rfl⟩, rfl, (fun e he => by simp at he), by simp, by simp, by decide, by rfl, List.Pairwise.nil, by
    show _ ∨ (!w.params.followText "set-order") = true
    cases w.params.followText "set-order" with
    | false => exact .inr rfl
    | true => exact .inl rfl⟩
theorem each_unK : ∀ (vs : List Value), (∀ v ∈ vs, ∃ k, keyIs k v = true) → PySem.W.EachIs (fun (v : Value) (k : Key) => keyIs k v = true) vs (vs.map fun v => unK (0, v))
  | [], _ => .nil
  | v :: vs, h => by
    obtain ⟨k, e⟩ := h v List.mem_cons_self
    refine .cons ?_ (each_unK vs fun u hu => h u (List.mem_cons_of_mem _ hu))
    show keyIs (unK (0, v)) v = true
    rw [unK_of (e := ((0 : Int), v)) e]
    exact e
theorem collK {Q : List Value → Shared → Prop} (hh : A.handled = none) (R : SetKs w s.heap a ks) 
    (q : ∀ s' vs L', (∀ b o, s.heap.get? b = some o → s'.heap.get? b = some o) → s.heap.objs.size ≤ s'.heap.objs.size → s'.gens = s.gens → s'.os = s.os → L'.Perm ks → PySem.W.EachIs (fun (v : Value) (k : Key) => keyIs k v = true) vs L' → Q vs s') :
    wpAny (model P w) A (collect (.ref a)) Q E s := by
  obtain ⟨o, es, ep, t, oa, ox, od, g, pm, nd, sbd, ft, ri, ld⟩ := R
  refine collect_set (A := A) hh ⟨o, oa, ox.1, od⟩ ft sbd ri ld fun s1 vs k1 hz g1 o1 vp => ?_
  refine q s1 vs (vs.map fun v => unK (0, v)) k1 hz g1 o1 ?_ (each_unK vs fun v hv => ?_)
  · have z := vp.map fun v => unK (0, v)
    rw [List.map_map] at z
    exact z.trans pm
  · obtain ⟨e, he, z⟩ := List.mem_map.mp (vp.mem_iff.mp hv)
    obtain ⟨k, e1, _⟩ := g e he
    exact ⟨k, by rw [← z]; exact e1⟩
end
def kitK (P : Program) (w : World) : Kit P w where
  M := Key
  dat := kD
  val := kV
  Is := fun _ k u => keyIs k u = true
  lim := scanBound
  hash := keyH w
  St := SetKs w
  IsH := fun _ _ _ => True
  limOk := by rw [sizeLine_eq]; decide
  rel := fun h => keyIs_rel h
  keep := fun h _ => h
  reads := fun h => keyIs_reads h
  there := fun ⟨o, _, _, _, h, _⟩ => ⟨o, h⟩
  stay := fun ⟨o, es, ep, t, g, r⟩ k => ⟨o, es, ep, t, k o g, r⟩
  fresh := freshK
  typ := fun ⟨o, _, _, _, g, x, _⟩ => ⟨o, g, x.1⟩
  hashing := fun {A E s Q m u} _ h q => (mixKind P w).pyHash (k := m) h (q _ (Nat.le_succ _))
  add := fun {A E s Q a L m u} _ R _ h room q => addK_one R h room q
  coll := fun {A E s Q a L} hh R _ _ q => collK hh R q
  isOf := fun _ _ _ _ r => rel_keyIs r
  keepH := fun _ _ => trivial
end SetX
end L2

/-! the hand layer's rules for sets of data: set(list), sorted(set(list)), sorted({.. for ..}), sorted({.. for .. for ..}) -/
namespace L2
open PySem PySem.Spec PyProof.Rows
namespace SetX
/-- what a reading must know of the members -/
structure Mem where
  M : Type
  dat : M → PyData
  val : M → V
  IsH : PySem.W.Frag → Hp → M → Prop
  lim : Nat
def memK : Mem := ⟨Key, kD, kV, fun _ _ _ => True, scanBound⟩
def Kit.mem {P : Program} {w : World} (T : Kit P w) : Mem := ⟨T.M, T.dat, T.val, T.IsH, T.lim⟩
theorem memK_eq (P : Program) (w : World) : (kitK P w).mem = memK := rfl
def SetHO {P : Program} {w : World} (T : Kit P w) (a : Addr) (L : List T.M) : HO := .ext fun h => T.St h a L
theorem setHO_new {P : Program} {w : World} {T : Kit P w} {H : Hp} {h : Heap} {a : Addr} {L : List T.M} (R : T.St h a L) : ObjOk P w H h a (SetHO T a L) := ⟨R, T.there R, fun _ _ p k => T.stay p k⟩
theorem relV_some : ∀ v : V, ∃ u, RelV v u
  | .non => ⟨_, rfl⟩
  | .bl _ => ⟨_, rfl⟩
  | .int i => ⟨.int i 0, 0, rfl⟩
  | .str x => ⟨.str x 0, 0, rfl⟩
  | .byt b => ⟨.bytes b 0, 0, rfl⟩
  | .flt b => ⟨.float b 0, 0, rfl⟩
  | .ref a => ⟨_, rfl⟩
  | .ty n => ⟨_, rfl⟩
/-- the members of L, in order -/
def srt (B : Mem) (L : List B.M) : List B.M := L.mergeSort (PySem.W.dataLe false B.dat)
/-- they can be compared -/
structure Cmpb (B : Mem) (L : List B.M) : Prop where
  al : PySem.W.AllAlike (L.map B.dat)
  so : PySem.W.Sortable (L.map B.dat)
  dp : ∀ x ∈ L, (B.dat x).depth ≤ 4
theorem Cmpb.sub {B : Mem} {L L' : List B.M} (h : Cmpb B L) (s : ∀ x ∈ L', x ∈ L) : Cmpb B L' where
  al := fun d hd d' hd' => by
    obtain ⟨x, hx, e⟩ := List.mem_map.mp hd
    obtain ⟨y, hy, e'⟩ := List.mem_map.mp hd'
    exact h.al d (List.mem_map.mpr ⟨x, s x hx, e⟩) d' (List.mem_map.mpr ⟨y, s y hy, e'⟩)
  so := by
    rcases h.so with z | z
    · exact .inl fun d hd => by
        obtain ⟨x, hx, e⟩ := List.mem_map.mp hd
        exact z d (List.mem_map.mpr ⟨x, s x hx, e⟩)
    · exact .inr fun d hd => by
        obtain ⟨x, hx, e⟩ := List.mem_map.mp hd
        exact z d (List.mem_map.mpr ⟨x, s x hx, e⟩)
  dp := fun x hx => h.dp x (s x hx)
section
variable {X : Cx}
theorem each_is (T : Kit X.prog X.w) {pins : List (Addr × Obj)} {σ : L2.St} {H : Hp} {s : Shared} (I : Inv X pins σ H s) : ∀ (zs : List T.M) (us : List Value), Vals (zs.map T.val) us → (∀ z ∈ zs, T.IsH X.K H z) →
    PySem.W.EachIs (fun (u : Value) (m : T.M) => T.Is s.heap m u) us zs
  | [], us, r, _ => by cases r; exact .nil
  | z :: zs, us, r, h => by
    cases r with
    | cons r1 r2 => exact .cons (T.isOf rfl rfl I (h z List.mem_cons_self) r1) (each_is T I zs _ r2 fun y hy => h y (List.mem_cons_of_mem _ hy))
theorem some_is (T : Kit X.prog X.w) {pins : List (Addr × Obj)} {σ : L2.St} {H : Hp} {s : Shared} (I : Inv X pins σ H s) {m : T.M} (h : T.IsH X.K H m) : ∃ v, T.Is s.heap m v := by
  obtain ⟨u, r⟩ := relV_some (T.val m)
  exact ⟨u, T.isOf rfl rfl I h r⟩
theorem vals_of_each (T : Kit X.prog X.w) : ∀ {L : List T.M} {us : List Value}, PySem.W.EachIs (fun (u : Value) (m : T.M) => RelV (T.val m) u) us L → Vals (L.map T.val) us
  | [], _, .nil => .nil
  | _ :: _, _, .cons r t => .cons r (vals_of_each T t)
/-- set(xs) -/
def rSetL (K : PySem.W.Frag) {P : Program} {w : World} (T : Kit P w) : List V → Hp → VK → Prop := fun vs H Q => ∃ (l : Addr) (zs : List T.M), vs = [V.ref l] ∧ SqL K H l (zs.map T.val) ∧ (∀ z ∈ zs, T.IsH K H z) ∧ zs.length + 1 < T.lim ∧
  ∀ p L, H p = none → Got T.dat zs L → Q (.ref p) (upd H p (SetHO T p L))
theorem cr_setL (T : Kit X.prog X.w) (hc : X.calm = true) (hu : X.A.units + 64 < cLine) : CallR X (.type "set") (rSetL X.K T) := by
  intro pins s σ H xs us Q I r h
  obtain ⟨l, zs, rfl, hs, hz, bd, q⟩ := h
  obtain ⟨its, rv, hl, _⟩ := I.list hs
  rw [Vals.ref1 r]
  refine set_of_list T zs (I.ok.hd hc) hl.isList (by rw [List.toList_toArray]; exact each_is T I zs its rv hz) bd (by omega) fun h' tk L R g kp => ?_
  exact ⟨.ref s.heap.objs.size, _, I.laid (t' := tk) kp (Nat.le_refl _) (setHO_new R), rfl, q _ L (I.hok.fresh (Nat.le_refl _)) g⟩
/-- sorted(a set) -/
def rSortedT (K : PySem.W.Frag) {P : Program} {w : World} (T : Kit P w) : List V → Hp → VK → Prop := fun vs H Q => ∃ (a : Addr) (L : List T.M), vs = [V.ref a] ∧ H a = some (SetHO T a L) ∧ (∀ x ∈ L, T.IsH K H x) ∧ L.length < T.lim ∧ Cmpb T.mem L ∧
  ∀ (L' : List T.M) (p : Addr), L'.Perm L → H p = none → Q (.ref p) (upd H p (.lst ((srt T.mem L').map T.val)))
theorem cr_sortedT (T : Kit X.prog X.w) (hc : X.calm = true) (hu : X.A.units + 64 < cLine) : CallR X (.builtin "sorted") (rSortedT X.K T) := by
  intro pins s σ H vs us Q I r h
  obtain ⟨a, L, rfl, ha, hI, few, cb, q⟩ := h
  have R : T.St s.heap a L := (I.hok a _ ha).1
  rw [Vals.ref1 r]
  refine sorted_kit T R (fun x hx => some_is T I (hI x hx)) (I.ok.hd hc) few (by omega) cb.al cb.so cb.dp fun s' p out c L' k g o hp hg pm eo => ?_
  have hv := vals_of_each T eo
  have yl : ((srt T.mem L').map T.val).length ≤ sizeLine := by
    have e := (List.mergeSort_perm L' (PySem.W.dataLe false T.dat)).length_eq
    show ((L'.mergeSort (PySem.W.dataLe false T.dat)).map T.val).length ≤ sizeLine
    rw [List.length_map, e, pm.length_eq]
    exact Nat.le_trans (Nat.le_of_lt few) T.limOk
  have fp : H p = none := I.hok.fresh hp
  have J : Inv X pins σ (upd H p (.lst ((srt T.mem L').map T.val))) { s with heap := s'.heap, gens := s'.gens, drawn := s'.drawn, toks := s'.toks } :=
    I.call (ch := []) (Un.laid k hp fp) (I.hok.laid k hp ⟨yl, out, c, hv, hg⟩) (by rw [g]; exact I.bare) (fun _ z => nomatch z)
  have e : s' = { s with heap := s'.heap, gens := s'.gens, drawn := s'.drawn, toks := s'.toks } := by
    cases s'
    cases s
    cases o
    rfl
  rw [e]
  exact ⟨.ref p, _, J, rfl, q L' p pm fp⟩
/-- set.add -/
theorem add_kit {P : Program} {w : World} (T : Kit P w) (ep : X.prog = P) (ew : X.w = w) {pins : List (Addr × Obj)} {σ : L2.St} {H : Hp} {s : Shared} {E : Value → Shared → Prop} {D : Addr} {L : List T.M} {m : T.M} {u : Value} {Q : Value → Shared → Prop} (I : Inv X pins σ H s) (hD : H D = some (SetHO T D L))
    (hx : ∀ x ∈ L, T.IsH X.K H x) (hm : T.IsH X.K H m) (ru : RelV (T.val m) u) (room : L.length + 1 < T.lim) (hu : X.A.units + 32 < cLine)
    (h : ∀ s' L', Inv X pins σ (upd H D (SetHO T D L')) s' → Added T.dat L m L' → Q .none s') : wpAny (model X.prog X.w) X.A (call (.builtin "set.add") [.ref D, u]) Q E s := by
  subst ep
  subst ew
  have R : T.St s.heap D L := (I.hok D _ hD).1
  have im : T.Is s.heap m u := T.isOf rfl rfl I hm ru
  refine wpAny_call_entry PySem.F.slot_set_add (T.typ R) F.entry_set_add ?_ (F.args_set_add_2 _ _)
  show wpAny _ X.A.in1 (setAdd D u >>= _) _ _ s
  unfold setAdd
  refine wpAny_bind (wpAny_holding (wpAny_bind (T.hashing (by simp only [Around.in1_units]; omega) im fun tk ht => ?_)))
  refine T.add (s := { s with toks := tk }) (by simp only [Around.in1_units]; omega) R (fun x hx' => some_is T I (hx x hx')) im room fun h' b L' sb R' ad => ?_
  refine wpAny_pure ⟨_, rfl, h _ L' ?_ ad⟩
  exact I.write (e := D) (t' := tk) (by rw [hD]; trivial) (.inl rfl) (fun b u hb hu => (sb.2 b hb).trans hu) (T.there R') (setHO_new R')
end
/-- what a turn asks, by what it does where the tests hold -/
abbrev TurnOf (prog : Program) (w : World) (A : Around) (tg : Expr) (ifs : List Expr) (it : Value) (env : Env) (DONE : Shared → Prop) (BODY : Shared → Prop) (OFF : Shared → Prop) (EX : Value → Shared → Prop) (s : Shared) : Prop :=
  wpAny (model prog w) A (pyNext it) (fun r s1 => match r with
      | none => DONE s1
      | some v => wpAny (model prog w) A (letOwnedTupleGo tg it v) (fun _ s2 => wpAny (model prog w) A (assign tg env v) (fun _ s3 =>
          wpAny (model prog w) A (forIn ifs true fun c r => if r = true then do let ok ← isTrue c env (eval c env); pure (ForInStep.yield ok) else pure (ForInStep.yield r)) (fun ok s4 => if ok = true then BODY s4 else OFF s4) EX s3) EX s2) EX s1) EX s
/-! ### one loop of a block -/
section
variable {Y : Cx} {tg : Expr} {J : It} {fp : List Addr} {it : Addr} {tn : Nat → Heap → Prop} {g : TG} {tt : TT} {ifs : List Expr} {pins : List (Addr × Obj)} {σ0 : L2.St} {vs : List Nat} {W : Nat → Nat → Hp → Prop} {Fin : Hp → Prop} {Bd : (Hp → Prop) → L2.St → Hp → Prop}
/-- what holds ahead of a turn -/
def Ahead (Y : Cx) (pins : List (Addr × Obj)) (σ0 : L2.St) (vs : List Nat) (fp : List Addr) (tn : Nat → Heap → Prop) (W : Nat → Nat → Hp → Prop) (n : Nat) (s : Shared) : Prop :=
  ∃ i H, Inv Y pins (wipe σ0 vs) H s ∧ tn i s.heap ∧ (∀ b ∈ fp, H b = none) ∧ W i n H
theorem one_turn (hx : Y.xe = fun _ _ => False) (hc : Y.calm = true) (T : Turn Y.prog Y.w Y.K tg J fp it tn) (pg : PG Y tg g) (pt : PTs Y ifs tt) (ff : ∀ H : Hp, (∀ b ∈ fp, H b = none) → ∀ b ∈ fp, FpOk Y pins H b)
    (turn : ∀ i m H, W i m H → (J.stop i H ∧ Fin H) ∨ (J.go i H ∧ ∃ Nx : Hp → Prop, (∀ H', Nx H' → ∃ m', m' < m ∧ W (i + 1) m' H') ∧ ∀ x H', J.yld i H x H' → g x (wipe σ0 vs) H' fun σ2 H2 => wipe σ2 vs = wipe σ0 vs ∧ tt σ2 H2 fun b H3 =>
      if b = true then Bd Nx σ2 H3 else Nx H3))
    {DONE : Shared → Prop} (done : ∀ s H, Inv Y pins (wipe σ0 vs) H s → Fin H → DONE s) {BODY : Shared → Prop} (n : Nat)
    (body : ∀ Nx σ2 H3 s ps, Inv Y (pins ++ ps) σ2 H3 s → wipe σ2 vs = wipe σ0 vs → Bd Nx σ2 H3 →
      (∀ σ9 s' H', Inv Y (pins ++ ps) σ9 H' s' → (wipe σ0 vs).length = σ9.length → (∀ (j : Nat) v, (wipe σ0 vs)[j]? = some (some v) → σ9[j]? = some (some v)) → Nx H' → ∃ m, m < n ∧ Ahead Y pins σ0 vs fp tn W m s') → BODY s)
    (s : Shared) (h : Ahead Y pins σ0 vs fp tn W n s) (EX : Value → Shared → Prop) :
    TurnOf Y.prog Y.w Y.A tg ifs (.ref it) Y.env DONE BODY (fun s4 => ∃ m, m < n ∧ Ahead Y pins σ0 vs fp tn W m s4) EX s := by
  obtain ⟨i, H, I, st, nf, w⟩ := h
  rcases turn i n H w with ⟨stop, fin⟩ | ⟨go, Nx, hNx, step⟩
  · refine thnF (T.done Y rfl rfl rfl hc i pins s _ H (fun _ _ => False) I (ff H nf) st stop) fun r s1 ⟨hr, I1⟩ => ?_
    subst hr
    exact done s1 H I1 fin
  · refine thnF (T.item Y rfl rfl rfl hc i pins s _ H (fun _ _ => False) I (ff H nf) st go) fun r s1 ⟨u, hr, h1⟩ => ?_
    subst hr
    refine thnF h1 fun _ s2 ⟨x, H2, I2, r2, y2, st2, n2⟩ => ?_
    have I2' := I2.pinned (ff H2 n2) (T.obj _ _ st2)
    have a1 := pg.run _ s2 _ H2 x u _ I2' r2 (step x H2 y2)
    rw [hx] at a1
    refine thnF a1 fun _ s3 ⟨σ3, H3, I3, hw3, q3⟩ => ?_
    have a2 := pt.run _ s3 σ3 H3 _ I3 q3
    rw [hx] at a2
    refine thnF a2 fun b s4 ⟨H4, I4, q4⟩ => ?_
    have fin : ∀ σ9 s' H', Inv Y (pins ++ pinsAt fp s2.heap) σ9 H' s' → (wipe σ0 vs).length = σ9.length → (∀ (j : Nat) v, (wipe σ0 vs)[j]? = some (some v) → σ9[j]? = some (some v)) → Nx H' → ∃ m, m < n ∧ Ahead Y pins σ0 vs fp tn W m s' := by
      intro σ9 s' H' I' hl hk nx
      obtain ⟨m', hm, w'⟩ := hNx H' nx
      have pin : ∀ b ∈ fp, ∀ o, s2.heap.get? b = some o → s'.heap.get? b = some o ∧ H' b = none := fun b hb o e =>
        let z := I'.pin (b, o) (List.mem_append_right _ (List.mem_append_right _ (mem_pinsAt hb e)))
        ⟨z.1, z.2.1⟩
      refine ⟨m', hm, i + 1, H', (I'.unpinned (pins := pins)).weak hl hk, T.keep _ _ _ st2 fun b hb o e => (pin b hb o e).1, fun b hb => ?_, w'⟩
      obtain ⟨o, e, _⟩ := T.obj _ _ st2 b hb
      exact (pin b hb o e).2
    have hl3 : (wipe σ0 vs).length = σ3.length := by rw [← hw3, wipe_length]
    have hk3 : ∀ (j : Nat) v, (wipe σ0 vs)[j]? = some (some v) → σ3[j]? = some (some v) := fun j v e => by
      rw [← hw3] at e
      exact (wipe_some e).1
    cases b with
    | false =>
      simp only [Bool.false_eq_true, if_false] at q4 ⊢
      exact fin σ3 s4 H4 I4 hl3 hk3 q4
    | true =>
      simp only [if_true] at q4 ⊢
      exact body Nx σ3 H4 s4 _ I4 hw3 q4 fin
end
/-! ### two clauses -/
section
variable {prog : Program} {w : World} {A : Around} {R : Result → Shared → Prop} {s : Shared} {elt t0 i0 t1 i1 : Expr} {ifs0 ifs1 : List Expr} {scope : Scope} {pos : Pos} {it acc : Value} {env : Env}
theorem turn_out (elt t0 i0 t1 i1 : Expr) (ifs0 ifs1 : List Expr) (scope : Scope) (pos : Pos) (it acc : Value) (env : Env) :
    compTurn (.SetComp elt [⟨t0, i0, ifs0, 0⟩, ⟨t1, i1, ifs1, 0⟩] scope pos) 0 it acc env = (do
      standAt i0.pos
      match ← pyNext it with
      | none => pure (.done .next)
      | some x =>
        letOwnedTupleGo t0 it x
        assign t0 env x
        let mut ok := true
        for q in ifs0 do
          if ok then ok ← isTrue q env (eval q env)
        if ok then
          let y ← eval i1 env
          standAt i1.pos
          let y ← foldedSetIterable i1 env y
          let _ ← runOwn (.compStart (.SetComp elt [⟨t0, i0, ifs0, 0⟩, ⟨t1, i1, ifs1, 0⟩] scope pos) 1 (← holding [y] (pyIter y)) acc env) env
        again (.compLoop (.SetComp elt [⟨t0, i0, ifs0, 0⟩, ⟨t1, i1, ifs1, 0⟩] scope pos) 0 it acc env)) := by rfl
theorem turn_in (elt t0 i0 t1 i1 : Expr) (ifs0 ifs1 : List Expr) (scope : Scope) (pos : Pos) (it acc : Value) (env : Env) :
    compTurn (.SetComp elt [⟨t0, i0, ifs0, 0⟩, ⟨t1, i1, ifs1, 0⟩] scope pos) 1 it acc env = (do
      standAt i1.pos
      match ← pyNext it with
      | none => pure (.done .next)
      | some x =>
        letOwnedTupleGo t1 it x
        assign t1 env x
        let mut ok := true
        for q in ifs1 do
          if ok then ok ← isTrue q env (eval q env)
        if ok then
          (do let y ← eval elt env; standAt elt.pos; let _ ← call (.builtin "set.add") [acc, y])
        again (.compLoop (.SetComp elt [⟨t0, i0, ifs0, 0⟩, ⟨t1, i1, ifs1, 0⟩] scope pos) 1 it acc env)) := by rfl
theorem loop_out (hs : ∀ x, foldedSetIterable i1 env x = pure x) (I : Nat → Shared → Prop)
    (turn : ∀ n s, I n s → TurnOf prog w A t0 ifs0 it env (R (.ok .next)) (fun s4 => wpAny (model prog w) A (eval i1 env) (fun x s5 => wpAny (model prog w) A (pyIter x) (fun it1 s6 =>
              codeAny (model prog w) A (.compStart (.SetComp elt [⟨t0, i0, ifs0, 0⟩, ⟨t1, i1, ifs1, 0⟩] scope pos) 1 it1 acc env) (fun r s' => match r with
                | .ok _ => ∃ m, m < n ∧ I m s'
                | .error _ => False) s6) (notedBy (model prog w) A env fun e s' => R (.error e) s') s5) (notedBy (model prog w) A env fun e s' => R (.error e) s') s4)
            (fun s4 => ∃ m, m < n ∧ I m s4) (notedBy (model prog w) A env fun e s' => R (.error e) s') s)
    (n : Nat) (h : I n s) :
    codeAny (model prog w) A (.compLoop (.SetComp elt [⟨t0, i0, ifs0, 0⟩, ⟨t1, i1, ifs1, 0⟩] scope pos) 0 it acc env) R s := by
  refine codeAny_loop rfl I (fun n s hI => ?_) n h
  show wpAny _ A ((compTurn (.SetComp elt [⟨t0, i0, ifs0, 0⟩, ⟨t1, i1, ifs1, 0⟩] scope pos) 0 it acc env).onRaise (fun x => do noteFrame x env; theTreesLotGoes x)) _ _ s
  refine wpAny_noted ?_
  rw [turn_out]
  refine wpAny_bind (wpAny_standAt (wpAny_bind (wpAny_mono (turn n s hI) (fun r u1 k1 => ?_) fun _ _ z => z)))
  cases r with
  | none => exact wpAny_pure k1
  | some v =>
    refine wpAny_bind (wpAny_mono k1 (fun _ u2 k2 => ?_) fun _ _ z => z)
    refine wpAny_bind (wpAny_mono k2 (fun _ u3 k3 => wpAny_bind (wpAny_mono k3 (fun ok u4 k4 => ?_) fun _ _ z => z)) fun _ _ z => z)
    cases ok with
    | false => exact wpAny_pure ⟨rfl, k4⟩
    | true =>
      refine wpAny_bind (wpAny_mono k4 (fun x u5 k5 => ?_) fun _ _ z => z)
      refine wpAny_bind (wpAny_standAt (wpAny_bind (wpAny_of_eq (hs x) (wpAny_bind (wpAny_holding (wpAny_mono k5 (fun it1 u6 k6 => ?_) fun _ _ z => z))))))
      refine wpAny_bind (wpAny_runOwn ?_)
      rw [Around.mark_none]
      refine codeAny_mono k6 fun r u7 hr => ?_
      cases r with
      | ok f =>
        first
          | exact wpAny_pure ⟨rfl, hr⟩
          | exact wpAny_bind (wpAny_pure (wpAny_pure ⟨rfl, hr⟩))
      | error e => exact hr.elim
theorem loop_in (I : Nat → Shared → Prop)
    (turn : ∀ n s, I n s → TurnOf prog w A t1 ifs1 it env (R (.ok .next)) (fun s4 => wpAny (model prog w) A (eval elt env) (fun x s5 =>
              wpAny (model prog w) A (call (.builtin "set.add") [acc, x]) (fun _ s6 => ∃ m, m < n ∧ I m s6) (notedBy (model prog w) A env fun e s' => R (.error e) s') s5) (notedBy (model prog w) A env fun e s' => R (.error e) s') s4)
            (fun s4 => ∃ m, m < n ∧ I m s4) (notedBy (model prog w) A env fun e s' => R (.error e) s') s)
    (n : Nat) (h : I n s) :
    codeAny (model prog w) A (.compLoop (.SetComp elt [⟨t0, i0, ifs0, 0⟩, ⟨t1, i1, ifs1, 0⟩] scope pos) 1 it acc env) R s := by
  refine codeAny_loop rfl I (fun n s hI => ?_) n h
  show wpAny _ A ((compTurn (.SetComp elt [⟨t0, i0, ifs0, 0⟩, ⟨t1, i1, ifs1, 0⟩] scope pos) 1 it acc env).onRaise (fun x => do noteFrame x env; theTreesLotGoes x)) _ _ s
  refine wpAny_noted ?_
  rw [turn_in]
  refine wpAny_bind (wpAny_standAt (wpAny_bind (wpAny_mono (turn n s hI) (fun r u1 k1 => ?_) fun _ _ z => z)))
  cases r with
  | none => exact wpAny_pure k1
  | some v =>
    refine wpAny_bind (wpAny_mono k1 (fun _ u2 k2 => ?_) fun _ _ z => z)
    refine wpAny_bind (wpAny_mono k2 (fun _ u3 k3 => wpAny_bind (wpAny_mono k3 (fun ok u4 k4 => ?_) fun _ _ z => z)) fun _ _ z => z)
    cases ok with
    | false => exact wpAny_pure ⟨rfl, k4⟩
    | true =>
      exact wpAny_bind (wpAny_bind (wpAny_mono k4 (fun x u5 k5 => wpAny_bind (wpAny_standAt (wpAny_bind (wpAny_mono k5 (fun _ u6 k6 => wpAny_pure (wpAny_pure ⟨rfl, k6⟩)) fun _ _ z => z)))) fun _ _ z => z))
theorem start_in (h0 : codeAny (model prog w) A (.compLoop (.SetComp elt [⟨t0, i0, ifs0, 0⟩, ⟨t1, i1, ifs1, 0⟩] scope pos) 1 it acc env) R s)
    (h : wpAny (model prog w) A (pyIter it) (fun it' s' => codeAny (model prog w) A (.compLoop (.SetComp elt [⟨t0, i0, ifs0, 0⟩, ⟨t1, i1, ifs1, 0⟩] scope pos) 1 it' acc env) R s')
      (notedBy (model prog w) A env fun x s' => R (.error x) s') s) :
    codeAny (model prog w) A (.compStart (.SetComp elt [⟨t0, i0, ifs0, 0⟩, ⟨t1, i1, ifs1, 0⟩] scope pos) 1 it acc env) R s := by
  refine codeAny_of_tree ?_
  show wpAny _ _ ((compStart (.SetComp elt [⟨t0, i0, ifs0, 0⟩, ⟨t1, i1, ifs1, 0⟩] scope pos) 1 it acc env).onRaise (fun x => do noteFrame x env; standAt theWindowsPlace)) _ _ s
  refine wpAny_notedAt ?_
  unfold compStart
  show wpAny _ _ (ask >>= _) _ _ s
  refine wpAny_bind (wpAny_askSetting (wpAny_ite ?_))
  split
  · first
      | exact wpAny_bind (wpAny_pure (wpAny_pure (And.intro rfl h0)))
      | exact wpAny_pure (And.intro rfl h0)
  · first
      | exact wpAny_bind (wpAny_rule (wpAny_bind (wpAny_standAt (wpAny_bind (wpAny_mono h (fun it' s' z => wpAny_pure (And.intro rfl z)) fun _ _ x => x)))))
      | (refine wpAny_bind (wpAny_rule ?_); show wpAny _ _ (standAt i1.pos >>= _) _ _ s; exact wpAny_bind (wpAny_standAt (wpAny_bind (wpAny_mono h (fun it' s' z => wpAny_pure (And.intro rfl z)) fun _ _ x => x))))
end
end SetX
end L2

/-! set comprehensions of data with one and with two clauses, and sorted(..) of them -/
namespace L2
open PySem PySem.Spec PyProof.Rows
namespace SetX
/-- y goes into the set at D -/
def Puts (B : Mem) (K : PySem.W.Frag) (SO : List B.M → HO) (D : Addr) (Nx : Hp → Prop) (y : V) (H : Hp) : Prop := ∃ (m : B.M) (L : List B.M), y = B.val m ∧ B.IsH K H m ∧ (∀ x ∈ L, B.IsH K H x) ∧ H D = some (SO L) ∧ L.length + 1 < B.lim ∧
  ∀ L', Added B.dat L m L' → Nx (upd H D (SO L'))
/-- the set at D is done; sorted(..) of it -/
def Done (B : Mem) (K : PySem.W.Frag) (SO : List B.M → HO) (D : Addr) (Q : VK) (H : Hp) : Prop := ∃ L, H D = some (SO L) ∧ (∀ x ∈ L, B.IsH K H x) ∧ L.length < B.lim ∧ Cmpb B L ∧
  ∀ (L' : List B.M) (p : Addr), L'.Perm L → H p = none → Q (.ref p) (upd H p (.lst ((srt B L').map B.val)))
/-- the loop of a set comprehension with one clause -/
def Lp1 (B : Mem) (K : PySem.W.Frag) (SO : List B.M → HO) (D : Addr) (J : It) (H1 : Hp) (g : TG) (tt : TT) (te : TE) (vs : List Nat) (σ : L2.St) (Fin : Hp → Prop) : Prop := ∃ W : Nat → Nat → Hp → Prop, (∃ m, W 0 m (upd H1 D (SO []))) ∧ ∀ i m H, W i m H →
  (J.stop i H ∧ Fin H) ∨ (J.go i H ∧ ∃ Nx : Hp → Prop, (∀ H', Nx H' → ∃ m', m' < m ∧ W (i + 1) m' H') ∧ ∀ x H', J.yld i H x H' → g x (wipe σ vs) H' fun σ2 H2 => wipe σ2 vs = wipe σ vs ∧ tt σ2 H2 fun b H3 =>
    if b = true then te σ2 H3 (Puts B K SO D Nx) else Nx H3)
/-- the inner loop -/
def LpIn (B : Mem) (K : PySem.W.Frag) (SO : List B.M → HO) (D : Addr) (g1 : TG) (tt1 : TT) (te : TE) (vs1 : List Nat) (σ2 : L2.St) (Nx : Hp → Prop) (J1 : It) (H4 : Hp) : Prop := ∃ W1 : Nat → Nat → Hp → Prop, (∃ m, W1 0 m H4) ∧ ∀ j k H, W1 j k H →
  (J1.stop j H ∧ Nx H) ∨ (J1.go j H ∧ ∃ Nx1 : Hp → Prop, (∀ H', Nx1 H' → ∃ k', k' < k ∧ W1 (j + 1) k' H') ∧ ∀ x H', J1.yld j H x H' → g1 x (wipe σ2 vs1) H' fun σ3 H5 => wipe σ3 vs1 = wipe σ2 vs1 ∧ tt1 σ3 H5 fun b H6 =>
    if b = true then te σ3 H6 (Puts B K SO D Nx1) else Nx1 H6)
/-- .. with two clauses -/
def Lp2 (B : Mem) (K : PySem.W.Frag) (SO : List B.M → HO) (D : Addr) (J : It) (H1 : Hp) (g : TG) (tt : TT) (wi1 : TI) (g1 : TG) (tt1 : TT) (te : TE) (vs vs1 : List Nat) (σ : L2.St) (Fin : Hp → Prop) : Prop := ∃ W : Nat → Nat → Hp → Prop, (∃ m, W 0 m (upd H1 D (SO []))) ∧ ∀ i m H, W i m H →
  (J.stop i H ∧ Fin H) ∨ (J.go i H ∧ ∃ Nx : Hp → Prop, (∀ H', Nx H' → ∃ m', m' < m ∧ W (i + 1) m' H') ∧ ∀ x H', J.yld i H x H' → g x (wipe σ vs) H' fun σ2 H2 => wipe σ2 vs = wipe σ vs ∧ tt σ2 H2 fun b H3 =>
    if b = true then wi1 σ2 H3 (LpIn B K SO D g1 tt1 te vs1 σ2 Nx) else Nx H3)
/-- sorted({e for ..}) -/
def tSortSc (B : Mem) (K : PySem.W.Frag) (wi : TI) (g : TG) (tt : TT) (te : TE) (vs : List Nat) : TE := fun σ H Q => wi σ H fun J H1 => ∀ (D : Addr) (SO : List B.M → HO), H1 D = none → Lp1 B K SO D J H1 g tt te vs σ (Done B K SO D Q)
/-- sorted({e for .. for ..}) -/
def tSortSc2 (B : Mem) (K : PySem.W.Frag) (wi : TI) (g : TG) (tt : TT) (wi1 : TI) (g1 : TG) (tt1 : TT) (te : TE) (vs vs1 : List Nat) : TE := fun σ H Q => wi σ H fun J H1 => ∀ (D : Addr) (SO : List B.M → HO), H1 D = none → Lp2 B K SO D J H1 g tt wi1 g1 tt1 te vs vs1 σ (Done B K SO D Q)
/-- sorted(set(xs)) -/
def tSortSet (B : Mem) (K : PySem.W.Frag) (te : TE) : TE := fun σ H Q => te σ H fun v H1 => ∃ (l : Addr) (zs : List B.M), v = V.ref l ∧ SqL K H1 l (zs.map B.val) ∧ (∀ z ∈ zs, B.IsH K H1 z) ∧ zs.length + 1 < B.lim ∧ Cmpb B zs ∧
  ∀ (p q : Addr) (o : HO) (L : List B.M), H1 p = none → q ≠ p → H1 q = none → Got B.dat zs L → Q (.ref q) (upd (upd H1 p o) q (.lst ((srt B L).map B.val)))
theorem Got.perm {M : Type} {dat : M → PyData} {zs L L' : List M} (g : Got dat zs L) (p : L'.Perm L) : Got dat zs L' :=
  ⟨fun x hx => g.sub x (p.mem_iff.mp hx), fun z hz => let ⟨x, hx, e⟩ := g.all z hz; ⟨x, p.mem_iff.mpr hx, e⟩, (p.map dat).nodup_iff.mpr g.nd, by rw [p.length_eq]; exact g.len⟩
section
variable {X : Cx}
/-- the block of a set comprehension stands open: what its first loop may use -/
structure Stand (T : Kit X.prog X.w) (pins : List (Addr × Obj)) (σ : L2.St) (scope : Scope) (own : List (PySem.Str × Nat)) (tg : Expr) (Q : VK) (use : Value → Shared → Prop) (H1 : Hp) (J : It) (D it : Addr) (fp : List Addr) (tn : Nat → Heap → Prop) (s3 s4 : Shared) (C : Addr) (cl : List (PySem.Str × Addr)) : Prop where
  inv : Inv (X.blk s3 (upd H1 D (SetHO T D [])) scope (compEnvC scope cl C X.env) fp) [] (wipe σ (own.map (·.2))) (upd H1 D (SetHO T D [])) s4
  turn : Turn X.prog X.w X.K tg J fp it tn
  st : tn 0 s4.heap
  nf : ∀ b ∈ fp, (upd H1 D (SetHO T D [])) b = none
  ff : ∀ H' : Hp, (∀ b ∈ fp, H' b = none) → ∀ b ∈ fp, FpOk (X.blk s3 (upd H1 D (SetHO T D [])) scope (compEnvC scope cl C X.env) fp) [] H' b
  close : ∀ s6 H6, Inv (X.blk s3 (upd H1 D (SetHO T D [])) scope (compEnvC scope cl C X.env) fp) [] (wipe σ (own.map (·.2))) H6 s6 → Q (.ref D) H6 → compPost (model X.prog X.w) X.A X.xe none use (.ref D) C (.ok .next) s6
theorem sc_open (T : Kit X.prog X.w) {pins : List (Addr × Obj)} {s : Shared} {σ : L2.St} {H : Hp} {Q : VK} {elt tg iter : Expr} {ifs : List Expr} {rest : List Comprehension} {scope : Scope} {own : List (PySem.Str × Nat)} {pos : Pos} {wi : TI}
    (hc : X.calm = true) (hN : X.N.Nodup) (I : Inv X pins σ H s) (hi : PI X tg iter wi) (ok : BlkOk X.N X.env.scope scope own) (hs : ∀ x, foldedSetIterable iter X.env x = pure x)
    {RD : It → Hp → Prop} (h : wi σ H RD)
    (loop : ∀ H1 J D it fp tn s3 s4 C cl, RD J H1 → H1 D = none → Stand T pins σ scope own tg Q (EP X pins σ Q) H1 J D it fp tn s3 s4 C cl →
      codeAny (model X.prog X.w) X.A (.compLoop (.SetComp elt (⟨tg, iter, ifs, 0⟩ :: rest) scope pos) 0 (.ref it) (.ref D) (compEnvC scope cl C X.env)) (compPost (model X.prog X.w) X.A X.xe none (EP X pins σ Q) (.ref D) C) s4) :
    wpAny (model X.prog X.w) X.A (eval (.SetComp elt (⟨tg, iter, ifs, 0⟩ :: rest) scope pos) X.env) (EP X pins σ Q) X.xe s := by
  rw [PpSet.eval_SetComp]
  have hfree : ∀ y ∈ scope.names, y.2 = .free → ∃ c, X.env.cells.lookup y.1 = some c := fun y hy e => by
    rcases ok.free y hy e with k | k
    · exact I.ok.has _ (.inl k)
    · exact I.ok.has _ (.inr k)
  show wpAny _ _ (comprehension (.SetComp elt (⟨tg, iter, ifs, 0⟩ :: rest) scope pos) scope X.env _ (newSet (.type "set")) false (eval iter X.env) none) _ _ s
  refine wpAny_comprehension_free (use := none) rfl hs (closure_ok hfree) ok.kind (fun y hy e => by rw [ok.uniq y hy, e])
    (thn (hi.run pins s σ H _ I h) fun xv s1 hx => thn hx fun itv s2 h2 => ?_)
  obtain ⟨it, fp, tn, J, H1, e, I2, TT, st2, f2, rd⟩ := h2
  subst e
  refine PpSet.newSet_ok (newEnv_comp ?_)
  generalize hD : s2.heap.objs.size = D
  have dn : H1 D = none := I2.hok.fresh (Nat.le_of_eq hD)
  generalize hs3 : ({ s2 with heap := s2.heap.push { cls := .type "set", dict := none, data := .set #[] 0 (.fresh 0 0 (!X.w.params.followText "set-order")) } } : Shared) = s3
  have h3 : s3.heap = s2.heap.push { cls := .type "set", dict := none, data := .set #[] 0 (.fresh 0 0 (!X.w.params.followText "set-order")) } := by rw [← hs3]
  have new : T.St s3.heap D [] := T.fresh (by rw [h3, ← hD]; exact Heap.get?_push_size _ rfl)
  have I3 : Inv X pins σ (upd H1 D (SetHO T D [])) s3 := by
    rw [← hs3]
    exact I2.laid (t' := s2.toks) (fun b o e => Heap.get?_push_of_some _ e) (Nat.le_of_eq hD) (setHO_new (by rw [← h3]; exact new))
  have lt : ∀ b ∈ fp, b < s2.heap.objs.size := fun b hb => by
    obtain ⟨o, e, _⟩ := TT.obj _ _ st2 b hb
    exact Heap.lt_size e
  have f3 : ∀ b ∈ fp, FpOk X pins (upd H1 D (SetHO T D [])) b ∧ b < s3.heap.objs.size := fun b hb => by
    refine ⟨⟨?_, (f2 b hb).2⟩, by rw [h3, Heap.size_push]; exact Nat.lt_succ_of_lt (lt b hb)⟩
    rw [upd_ne (by rw [← hD]; exact Nat.ne_of_lt (lt b hb))]
    exact (f2 b hb).1
  have st3 : tn 0 s3.heap := TT.keep _ _ _ st2 fun b _ o e => by rw [h3]; exact Heap.get?_push_of_some _ e
  have I4 := block_start I3 ok hN f3
  show codeAny _ _ (.compStart (.SetComp elt (⟨tg, iter, ifs, 0⟩ :: rest) scope pos) 0 (.ref it) (.ref D) (compEnvC scope (cellsFrom (s3.heap.objs.size + 1) scope.names (cloFrom X.env.cells scope.names [])) s3.heap.objs.size X.env)) (compPost (model X.prog X.w) X.A X.xe none (EP X pins σ Q) (.ref D) s3.heap.objs.size) { s3 with heap := pushCells (s3.heap.push { cls := .type "dict", data := .dict #[] }) scope.names }
  generalize hcl : cellsFrom (s3.heap.objs.size + 1) scope.names (cloFrom X.env.cells scope.names []) = cl at I4 ⊢
  have st4 : tn 0 (pushCells (s3.heap.push { cls := .type "dict", data := .dict #[] }) scope.names) := TT.keep _ _ _ st3 fun b _ o e => pushCells_keeps _ _ _ _ (Heap.get?_push_of_some _ e)
  have cL : (compEnvC scope cl s3.heap.objs.size X.env).locals = s3.heap.objs.size := rfl
  have stand : Stand T pins σ scope own tg Q (EP X pins σ Q) H1 J D it fp tn s3 { s3 with heap := pushCells (s3.heap.push { cls := .type "dict", data := .dict #[] }) scope.names } s3.heap.objs.size cl := by
    refine ⟨I4, TT, st4, fun b hb => (f3 b hb).1.1, fun H' hn b hb => ⟨hn b hb, (I4.ok.exf b hb).1, I4.ok.exfs b hb, .inl hb, fun x c e => (I4.ok.exf b hb).2 x c e, fun p hp => absurd (show p ∈ ([] : List (Addr × Obj)) ++ [] from hp) (by simp)⟩, fun s6 H6 I6 q => ?_⟩
    have I7 : Inv X pins σ H6 s6 := I3.call' (ch := fp) I6.os I6.base I6.hok I6.bare fun b hb => ⟨(f3 b hb).1.2.2.2.1, (f3 b hb).1.2.1, (f3 b hb).1.2.2.2.2.1, (f3 b hb).1.2.2.2.2.2⟩
    have nC : H6 s3.heap.objs.size = none := by
      have z : H6 (compEnvC scope cl s3.heap.objs.size X.env).locals = none := I6.free
      rw [cL] at z
      exact z
    obtain ⟨m, hn, _⟩ := I6.loc
    have hn : s6.heap.Ns (compEnvC scope cl s3.heap.objs.size X.env).locals m := hn
    rw [cL] at hn
    obtain ⟨z0, z1, z2, z3, z4, z5⟩ := I3.fpOk (Nat.le_refl _) nC
    exact ⟨m, hn, fun h'' sb => ⟨.ref D, H6, I7.turned (t' := s6.toks) (fun b o hb e => (sb.2 b hb).trans e) z0 z1 z3 z4 z5, rfl, q⟩⟩
  have lp := loop H1 J D it fp tn s3 _ s3.heap.objs.size cl rd dn stand
  exact PpSet.codeAny_compStart_set lp (TT.self X.A 0 _ _ _ st4 lp)
/-- the element goes in -/
theorem put_ok (T : Kit X.prog X.w) {Y : Cx} (ep : Y.prog = X.prog) (ew : Y.w = X.w) (ek : Y.K = X.K) {pins : List (Addr × Obj)} {σ : L2.St} {H : Hp} {s : Shared} {D : Addr} {y : V} {u : Value} {Nx : Hp → Prop} {F : Shared → Prop} {E : Value → Shared → Prop} (I : Inv Y pins σ H s) (r : RelV y u) (hu : Y.A.units + 32 < cLine)
    (p : Puts T.mem X.K (SetHO T D) D Nx y H) (fin : ∀ s' H', Inv Y pins σ H' s' → Nx H' → F s') : wpAny (model Y.prog Y.w) Y.A (call (.builtin "set.add") [.ref D, u]) (fun _ s' => F s') E s := by
  obtain ⟨m, L, rfl, hm, hx, hD, room, nx⟩ := p
  exact add_kit (Q := fun _ s' => F s') T ep ew I hD (fun x h => ek ▸ hx x h) (ek ▸ hm) r room hu fun s' L' I' ad => fin s' _ I' (nx L' ad)
/-- one clause -/
theorem pe_sc1 (T : Kit X.prog X.w) {elt tg iter : Expr} {ifs : List Expr} {scope : Scope} {own : List (PySem.Str × Nat)} {pos : Pos} {wi : TI} {g : TG} {tt : TT} {te : TE} (hc : X.calm = true) (hN : X.N.Nodup) (hu : X.A.units + 64 < cLine) (hi : PI X tg iter wi) (ok : BlkOk X.N X.env.scope scope own)
    (hg : ∀ (s : Shared) (H : Hp) (C : Addr) (cl : List (PySem.Str × Addr)) (fp : List Addr), PG (X.blk s H scope (compEnvC scope cl C X.env) fp) tg g) (ht : ∀ (s : Shared) (H : Hp) (C : Addr) (cl : List (PySem.Str × Addr)) (fp : List Addr), PTs (X.blk s H scope (compEnvC scope cl C X.env) fp) ifs tt)
    (he : ∀ (s : Shared) (H : Hp) (C : Addr) (cl : List (PySem.Str × Addr)) (fp : List Addr), PE (X.blk s H scope (compEnvC scope cl C X.env) fp) elt te) (hs : ∀ x, foldedSetIterable iter X.env x = pure x := by intro _; rfl) :
    PE X (.SetComp elt [⟨tg, iter, ifs, 0⟩] scope pos) (fun σ H Q => wi σ H fun J H1 => ∀ D, H1 D = none → Lp1 T.mem X.K (SetHO T D) D J H1 g tt te (own.map (·.2)) σ (Q (.ref D))) := by
  refine ⟨fun pins s σ H Q I h => ?_⟩
  refine sc_open T hc hN I hi ok hs h fun H1 J D it fp tn s3 s4 C cl rd dn S => ?_
  obtain ⟨W, ⟨m0, w0⟩, turn⟩ := rd D dn
  have pe := he s3 (upd H1 D (SetHO T D [])) C cl fp
  refine PpSet.compLoopS_any (Ahead (X.blk s3 (upd H1 D (SetHO T D [])) scope (compEnvC scope cl C X.env) fp) [] σ (own.map (·.2)) fp tn W) (fun n s' a => ?_) m0 ⟨0, _, S.inv, S.st, S.nf, w0⟩
  refine one_turn (Y := X.blk s3 (upd H1 D (SetHO T D [])) scope (compEnvC scope cl C X.env) fp) rfl hc S.turn (hg s3 _ C cl fp) (ht s3 _ C cl fp) S.ff turn (fun s6 H6 I6 q => S.close s6 H6 I6 q) n (fun Nx σ2 H3 s5 ps I5 hw bd fin => ?_) s' a _
  have hl : (wipe σ (own.map (·.2))).length = σ2.length := by rw [← hw, wipe_length]
  have hk : ∀ (j : Nat) v, (wipe σ (own.map (·.2)))[j]? = some (some v) → σ2[j]? = some (some v) := fun j v e => by
    rw [← hw] at e
    exact (wipe_some e).1
  refine thnF (pe.run _ s5 σ2 H3 _ I5 bd) fun z s6 ⟨y, H6, I6, r6, pt⟩ => ?_
  exact put_ok T (Y := X.blk s3 (upd H1 D (SetHO T D [])) scope (compEnvC scope cl C X.env) fp) rfl rfl rfl I6 r6 (by show X.A.units + 32 < cLine; omega) pt fun s7 H7 I7 nx => fin σ2 s7 H7 I7 hl hk nx
theorem pe_sc2 (T : Kit X.prog X.w) {elt tg iter tg1 iter1 : Expr} {ifs ifs1 : List Expr} {scope : Scope} {own : List (PySem.Str × Nat)} {vs1 : List Nat} {pos : Pos} {wi wi1 : TI} {g g1 : TG} {tt tt1 : TT} {te : TE} (hc : X.calm = true) (hN : X.N.Nodup) (hu : X.A.units + 64 < cLine) (hi : PI X tg iter wi) (ok : BlkOk X.N X.env.scope scope own) (hv : ∀ i ∈ vs1, i ∈ own.map (·.2))
    (hg : ∀ (s : Shared) (H : Hp) (C : Addr) (cl : List (PySem.Str × Addr)) (fp : List Addr), PG (X.blk s H scope (compEnvC scope cl C X.env) fp) tg g) (ht : ∀ (s : Shared) (H : Hp) (C : Addr) (cl : List (PySem.Str × Addr)) (fp : List Addr), PTs (X.blk s H scope (compEnvC scope cl C X.env) fp) ifs tt)
    (hi1 : ∀ (s : Shared) (H : Hp) (C : Addr) (cl : List (PySem.Str × Addr)) (fp : List Addr), PI (X.blk s H scope (compEnvC scope cl C X.env) fp) tg1 iter1 wi1)
    (hg1 : ∀ (s : Shared) (H : Hp) (C : Addr) (cl : List (PySem.Str × Addr)) (fp : List Addr), PG (X.blk s H scope (compEnvC scope cl C X.env) fp) tg1 g1) (ht1 : ∀ (s : Shared) (H : Hp) (C : Addr) (cl : List (PySem.Str × Addr)) (fp : List Addr), PTs (X.blk s H scope (compEnvC scope cl C X.env) fp) ifs1 tt1)
    (he : ∀ (s : Shared) (H : Hp) (C : Addr) (cl : List (PySem.Str × Addr)) (fp : List Addr), PE (X.blk s H scope (compEnvC scope cl C X.env) fp) elt te) (hs : ∀ x, foldedSetIterable iter X.env x = pure x := by intro _; rfl) (hs1 : ∀ env x, foldedSetIterable iter1 env x = pure x := by intro _ _; rfl) :
    PE X (.SetComp elt [⟨tg, iter, ifs, 0⟩, ⟨tg1, iter1, ifs1, 0⟩] scope pos) (fun σ H Q => wi σ H fun J H1 => ∀ D, H1 D = none → Lp2 T.mem X.K (SetHO T D) D J H1 g tt wi1 g1 tt1 te (own.map (·.2)) vs1 σ (Q (.ref D))) := by
  refine ⟨fun pins s σ H Q I h => ?_⟩
  refine sc_open T hc hN I hi ok hs h fun H1 J D it fp tn s3 s4 C cl rd dn S => ?_
  obtain ⟨W, ⟨m0, w0⟩, turn⟩ := rd D dn
  have pe := he s3 (upd H1 D (SetHO T D [])) C cl fp
  refine loop_out (hs1 _) (Ahead (X.blk s3 (upd H1 D (SetHO T D [])) scope (compEnvC scope cl C X.env) fp) [] σ (own.map (·.2)) fp tn W) (fun n s' a => ?_) m0 ⟨0, _, S.inv, S.st, S.nf, w0⟩
  refine one_turn (Y := X.blk s3 (upd H1 D (SetHO T D [])) scope (compEnvC scope cl C X.env) fp) rfl hc S.turn (hg s3 _ C cl fp) (ht s3 _ C cl fp) S.ff turn (fun s6 H6 I6 q => S.close s6 H6 I6 q) n (fun Nx σ2 H3 s5 ps I5 hw bd fin => ?_) s' a _
  have hl : (wipe σ (own.map (·.2))).length = σ2.length := by rw [← hw, wipe_length]
  have hk : ∀ (j : Nat) v, (wipe σ (own.map (·.2)))[j]? = some (some v) → (wipe σ2 vs1)[j]? = some (some v) := fun j v e => by
    rw [← hw] at e
    obtain ⟨e1, e2⟩ := wipe_some e
    rw [wipe_out fun z => e2 (hv j z)]
    exact e1
  refine thnF ((hi1 s3 _ C cl fp).run _ s5 σ2 H3 _ I5 bd) fun xv s6 hx => thnF hx fun itv s7 h7 => ?_
  obtain ⟨it1, fp1, tn1, J1, H7, e1, I7, T1, st7, f7, W1, ⟨m1, w1⟩, turn1⟩ := h7
  subst e1
  have ff1 : ∀ H' : Hp, (∀ b ∈ fp1, H' b = none) → ∀ b ∈ fp1, FpOk (X.blk s3 (upd H1 D (SetHO T D [])) scope (compEnvC scope cl C X.env) fp) ([] ++ ps) H' b := fun H' hn b hb => ⟨hn b hb, (f7 b hb).2⟩
  have lp1 : codeAny (model X.prog X.w) X.A (.compLoop (.SetComp elt [⟨tg, iter, ifs, 0⟩, ⟨tg1, iter1, ifs1, 0⟩] scope pos) 1 (.ref it1) (.ref D) (compEnvC scope cl C X.env))
      (fun r s' => match r with
        | .ok _ => ∃ m, m < n ∧ Ahead (X.blk s3 (upd H1 D (SetHO T D [])) scope (compEnvC scope cl C X.env) fp) [] σ (own.map (·.2)) fp tn W m s'
        | .error _ => False) s7 := by
    refine loop_in (Ahead (X.blk s3 (upd H1 D (SetHO T D [])) scope (compEnvC scope cl C X.env) fp) ([] ++ ps) σ2 vs1 fp1 tn1 W1) (fun k s8 a1 => ?_) m1 ⟨0, H7, I7.weak (wipe_length _ _) (fun j v e => (wipe_some e).1), st7, fun b hb => (f7 b hb).1, w1⟩
    refine one_turn (Y := X.blk s3 (upd H1 D (SetHO T D [])) scope (compEnvC scope cl C X.env) fp) rfl hc T1 (hg1 s3 _ C cl fp) (ht1 s3 _ C cl fp) ff1 turn1 (fun s9 H9 I9 nx => fin _ s9 H9 I9 (hl.trans (wipe_length σ2 vs1).symm) hk nx) k (fun Nx1 σ3 H8 s9 ps1 I8 hw1 bd1 fin1 => ?_) s8 a1 _
    have hl3 : (wipe σ2 vs1).length = σ3.length := by rw [← hw1, wipe_length]
    have hk3 : ∀ (j : Nat) v, (wipe σ2 vs1)[j]? = some (some v) → σ3[j]? = some (some v) := fun j v e => by
      rw [← hw1] at e
      exact (wipe_some e).1
    refine thnF (pe.run _ s9 σ3 H8 _ I8 bd1) fun z s10 ⟨y, H10, I10, r10, pt⟩ => ?_
    exact put_ok T (Y := X.blk s3 (upd H1 D (SetHO T D [])) scope (compEnvC scope cl C X.env) fp) rfl rfl rfl I10 r10 (by show X.A.units + 32 < cLine; omega) pt fun s11 H11 I11 nx => fin1 σ3 s11 H11 I11 hl3 hk3 nx
  exact start_in lp1 (T1.self X.A 0 _ _ _ st7 lp1)
/-- an iterator with less than is asked -/
def iMn (wi : TI) : TI := fun σ H R => ∃ R0 : It → Hp → Prop, wi σ H R0 ∧ ∀ J H1, R0 J H1 → R J H1
theorem pi_mn {tg iter : Expr} {wi : TI} (h : PI X tg iter wi) : PI X tg iter (iMn wi) := ⟨fun pins s σ H R I ⟨R0, h0, h1⟩ => thn (h.run pins s σ H R0 I h0) fun _ _ z => thn z fun _ _ ⟨it, fp, tn, J, H', e, I', T, st, f, r⟩ => ⟨it, fp, tn, J, H', e, I', T, st, f, h1 J H' r⟩⟩
theorem Lp1.mono {B : Mem} {K : PySem.W.Frag} {SO : List B.M → HO} {D : Addr} {J : It} {H1 : Hp} {g : TG} {tt : TT} {te : TE} {vs : List Nat} {σ : L2.St} {F F' : Hp → Prop} (h : Lp1 B K SO D J H1 g tt te vs σ F) (m : ∀ H, F H → F' H) : Lp1 B K SO D J H1 g tt te vs σ F' := by
  obtain ⟨W, w0, t⟩ := h
  exact ⟨W, w0, fun i n H w => (t i n H w).elim (fun z => .inl ⟨z.1, m _ z.2⟩) .inr⟩
theorem Lp2.mono {B : Mem} {K : PySem.W.Frag} {SO : List B.M → HO} {D : Addr} {J : It} {H1 : Hp} {g g1 : TG} {tt tt1 : TT} {wi1 : TI} {te : TE} {vs vs1 : List Nat} {σ : L2.St} {F F' : Hp → Prop} (h : Lp2 B K SO D J H1 g tt wi1 g1 tt1 te vs vs1 σ F) (m : ∀ H, F H → F' H) : Lp2 B K SO D J H1 g tt wi1 g1 tt1 te vs vs1 σ F' := by
  obtain ⟨W, w0, t⟩ := h
  exact ⟨W, w0, fun i n H w => (t i n H w).elim (fun z => .inl ⟨z.1, m _ z.2⟩) .inr⟩
theorem done_sorted (T : Kit X.prog X.w) {K : PySem.W.Frag} {D : Addr} {Q : VK} {H : Hp} (h : Done T.mem K (SetHO T D) D Q H) : rSortedT K T [.ref D] H Q :=
  let ⟨L, hD, hx, few, cb, q⟩ := h
  ⟨D, L, rfl, hD, hx, few, cb, q⟩
theorem pe_sortSc (T : Kit X.prog X.w) {elt tg iter : Expr} {ifs : List Expr} {scope : Scope} {own : List (PySem.Str × Nat)} {p1 pos pos1 : Pos} {wi : TI} {g : TG} {tt : TT} {te : TE} (hc : X.calm = true) (hN : X.N.Nodup) (hu : X.A.units + 64 < cLine) (g1 : Gl X "sorted") (m1 : X.mg "sorted" = none) (hi : PI X tg iter wi) (ok : BlkOk X.N X.env.scope scope own)
    (hg : ∀ (s : Shared) (H : Hp) (C : Addr) (cl : List (PySem.Str × Addr)) (fp : List Addr), PG (X.blk s H scope (compEnvC scope cl C X.env) fp) tg g) (ht : ∀ (s : Shared) (H : Hp) (C : Addr) (cl : List (PySem.Str × Addr)) (fp : List Addr), PTs (X.blk s H scope (compEnvC scope cl C X.env) fp) ifs tt)
    (he : ∀ (s : Shared) (H : Hp) (C : Addr) (cl : List (PySem.Str × Addr)) (fp : List Addr), PE (X.blk s H scope (compEnvC scope cl C X.env) fp) elt te) (hs : ∀ x, foldedSetIterable iter X.env x = pure x := by intro _; rfl)
    (sE : starEach [.SetComp elt [⟨tg, iter, ifs, 0⟩] scope pos] X.env = (false, eval (.SetComp elt [⟨tg, iter, ifs, 0⟩] scope pos) X.env) :: starEach [] X.env := by rfl) :
    PE X (.Call (.Name "sorted" p1) [.SetComp elt [⟨tg, iter, ifs, 0⟩] scope pos] [] pos1) (tSortSc T.mem X.K wi g tt te (own.map (·.2))) := by
  have inner := pe_sc1 T (pos := pos) hc hN hu (pi_mn hi) ok hg ht he hs
  have outer := pe_callB (pos := pos1) (p := p1) (cr_sortedT T hc hu) g1 m1 (by decide +kernel) (pa_cons inner pa_nil (hs := sE)) (he := sE)
  refine ⟨fun pins s σ H Q I h => outer.run pins s σ H Q I ?_⟩
  exact ⟨_, h, fun J H1 k D dn => (k D (SetHO T D) dn).mono fun H6 d => done_sorted T d⟩
theorem pe_sortSc2 (T : Kit X.prog X.w) {elt tg iter tg1 iter1 : Expr} {ifs ifs1 : List Expr} {scope : Scope} {own : List (PySem.Str × Nat)} {vs1 : List Nat} {p1 pos pos1 : Pos} {wi wi1 : TI} {g g1 : TG} {tt tt1 : TT} {te : TE} (hc : X.calm = true) (hN : X.N.Nodup) (hu : X.A.units + 64 < cLine) (gs : Gl X "sorted") (m1 : X.mg "sorted" = none) (hi : PI X tg iter wi) (ok : BlkOk X.N X.env.scope scope own) (hv : ∀ i ∈ vs1, i ∈ own.map (·.2))
    (hg : ∀ (s : Shared) (H : Hp) (C : Addr) (cl : List (PySem.Str × Addr)) (fp : List Addr), PG (X.blk s H scope (compEnvC scope cl C X.env) fp) tg g) (ht : ∀ (s : Shared) (H : Hp) (C : Addr) (cl : List (PySem.Str × Addr)) (fp : List Addr), PTs (X.blk s H scope (compEnvC scope cl C X.env) fp) ifs tt)
    (hi1 : ∀ (s : Shared) (H : Hp) (C : Addr) (cl : List (PySem.Str × Addr)) (fp : List Addr), PI (X.blk s H scope (compEnvC scope cl C X.env) fp) tg1 iter1 wi1)
    (hg1 : ∀ (s : Shared) (H : Hp) (C : Addr) (cl : List (PySem.Str × Addr)) (fp : List Addr), PG (X.blk s H scope (compEnvC scope cl C X.env) fp) tg1 g1) (ht1 : ∀ (s : Shared) (H : Hp) (C : Addr) (cl : List (PySem.Str × Addr)) (fp : List Addr), PTs (X.blk s H scope (compEnvC scope cl C X.env) fp) ifs1 tt1)
    (he : ∀ (s : Shared) (H : Hp) (C : Addr) (cl : List (PySem.Str × Addr)) (fp : List Addr), PE (X.blk s H scope (compEnvC scope cl C X.env) fp) elt te) (hs : ∀ x, foldedSetIterable iter X.env x = pure x := by intro _; rfl) (hs1 : ∀ env x, foldedSetIterable iter1 env x = pure x := by intro _ _; rfl)
    (sE : starEach [.SetComp elt [⟨tg, iter, ifs, 0⟩, ⟨tg1, iter1, ifs1, 0⟩] scope pos] X.env = (false, eval (.SetComp elt [⟨tg, iter, ifs, 0⟩, ⟨tg1, iter1, ifs1, 0⟩] scope pos) X.env) :: starEach [] X.env := by rfl) :
    PE X (.Call (.Name "sorted" p1) [.SetComp elt [⟨tg, iter, ifs, 0⟩, ⟨tg1, iter1, ifs1, 0⟩] scope pos] [] pos1) (tSortSc2 T.mem X.K wi g tt wi1 g1 tt1 te (own.map (·.2)) vs1) := by
  have inner := pe_sc2 T (pos := pos) hc hN hu (pi_mn hi) ok hv hg ht hi1 hg1 ht1 he hs hs1
  have outer := pe_callB (pos := pos1) (p := p1) (cr_sortedT T hc hu) gs m1 (by decide +kernel) (pa_cons inner pa_nil (hs := sE)) (he := sE)
  refine ⟨fun pins s σ H Q I h => outer.run pins s σ H Q I ?_⟩
  exact ⟨_, h, fun J H1 k D dn => (k D (SetHO T D) dn).mono fun H6 d => done_sorted T d⟩
def tLess (te : TE) : TE := fun σ H Q => ∃ Q0 : VK, te σ H Q0 ∧ ∀ v H1, Q0 v H1 → Q v H1
theorem pe_less {e : Expr} {te : TE} (he : PE X e te) : PE X e (tLess te) := ⟨fun pins s σ H Q I ⟨Q0, h0, h1⟩ => thn (he.run pins s σ H Q0 I h0) fun _ _ ⟨v, H1, I1, r1, z⟩ => ⟨v, H1, I1, r1, h1 v H1 z⟩⟩
theorem pe_sortSetL (T : Kit X.prog X.w) {e : Expr} {te : TE} {p1 p2 pos1 pos2 : Pos} (hc : X.calm = true) (hu : X.A.units + 64 < cLine) (g1 : Gl X "sorted") (m1 : X.mg "sorted" = none) (g2 : Gl X "set") (m2 : X.mg "set" = none) (he : PE X e te)
    (s2 : starEach [e] X.env = (false, eval e X.env) :: starEach [] X.env := by rfl) (s1 : starEach [.Call (.Name "set" p2) [e] [] pos2] X.env = (false, eval (.Call (.Name "set" p2) [e] [] pos2) X.env) :: starEach [] X.env := by rfl) :
    PE X (.Call (.Name "sorted" p1) [.Call (.Name "set" p2) [e] [] pos2] [] pos1) (tSortSet T.mem X.K te) := by
  have inner := pe_callTy (pos := pos2) (p := p2) (cr_setL T hc hu) g2 m2 (by decide +kernel) (pa_cons (pe_less he) pa_nil (hs := s2)) (he := s2)
  have outer := pe_callB (pos := pos1) (p := p1) (cr_sortedT T hc hu) g1 m1 (by decide +kernel) (pa_cons inner pa_nil (hs := s1)) (he := s1)
  refine ⟨fun pins s σ H Q I h => outer.run pins s σ H Q I ?_⟩
  refine ⟨_, h, ?_⟩
  rintro v H1 ⟨l, zs, rfl, hl, hz, room, cb, q⟩
  refine ⟨l, zs, rfl, hl, hz, room, fun p L hp g => ?_⟩
  refine ⟨p, L, rfl, upd_same, fun x hx => T.keepH (hz x (g.sub x hx)) (fun b u e => by rw [upd_ne (ne_of_none e hp)]; exact e), Nat.lt_of_le_of_lt g.len (Nat.lt_of_succ_lt room), cb.sub g.sub, fun L' p9 pm hq => ?_⟩
  have nq : p9 ≠ p := fun z => by rw [z, upd_same] at hq; cases hq
  exact q p p9 _ L' hp nq (by rw [upd_ne nq] at hq; exact hq) (g.perm pm)
end
end SetX
end L2

/-! d.items() of a dict whose keys are tuples, walked by a target of several names -/
namespace L2
open PySem PySem.Spec PyProof.Rows
/-- the pairs, each a new tuple of the key's own tuple and the value -/
def ItiT (d : Addr) (o : Obj) (kvs : List (List Key × V)) : It :=
  ⟨fun i H => H d = some (.frz o (.dT kvs)) ∧ i < kvs.length, fun i H x H' => ∃ T k v q, kvs[i]? = some (k, v) ∧ H q = some (.tup (k.map kV)) ∧ x = .ref T ∧ H T = none ∧ H' = upd H T (.tup [.ref q, v]), fun i H => H d = some (.frz o (.dT kvs)) ∧ kvs.length ≤ i⟩
section
variable {X : Cx} {pins : List (Addr × Obj)} {σ : St} {H : Hp} {s : Shared} {d : Addr} {o : Obj}
theorem Inv.frzV {kvs : List (List Key × V)} (I : Inv X pins σ H s) (h : H d = some (.frz o (.dT kvs))) :
    (d == sysModules) = false ∧ s.heap.get? d = some o ∧ o.ExactDict ∧ ∃ (es : Array DictEntry) (ep : Nat), o.data = .dict es ep ∧ es.size = kvs.length ∧
      ∀ (i : Nat) (k : List Key) (v : V), kvs[i]? = some (k, v) → ∃ (en : DictEntry) (q : Addr), es[i]? = some en ∧ en.key = .ref q ∧ H q = some (.tup (k.map kV)) ∧ RelV v en.val := by
  obtain ⟨hd, z, hs, xs, pr, o', es, ep, ho, hx, hdt, he, _⟩ := I.hok d _ h
  rw [hd] at ho
  cases ho
  refine ⟨hs, hd, hx, es, ep, hdt, ?_, fun i k v e => ?_⟩
  · have l1 : es.size = xs.length := size_of_entries he
    have l2 : kvs.length = xs.length := Paired.length pr
    omega
  · obtain ⟨b, hb, e1, e2, e3⟩ := paired_get pr e
    have q := entry_at he i
    rw [hb] at q
    exact ⟨_, b.2.1, q, rfl, e2, e3⟩
end
theorem turn_itemsT {P : Program} {w : World} {K : PySem.W.Frag} {d : Addr} {o : Obj} {es : Array DictEntry} {ep : Nat} {kvs : List (List Key × V)} {elts : List Expr} {kk : Nat} {tpos : Pos} (it : Addr) (hod : o.data = .dict es ep) :
    Turn P w K (.Tuple elts kk tpos) (ItiT d o kvs) [it] it (fun i h => ∃ ok ov, IsItemIter h it d i kvs.length ep ok ov) where
  mem := by simp
  obj := fun i h st b hb => by
    have e : b = it := by simpa using hb
    subst e
    obtain ⟨ok, ov, e⟩ := st
    exact ⟨_, e, fun v z => nomatch z⟩
  keep := fun i h h' st k => let ⟨ok, ov, e⟩ := st; ⟨ok, ov, k it (by simp) _ e⟩
  item := by
    intro X hP hw hK hc i pins s σ H E I hf st hg
    subst hP hw hK
    obtain ⟨hd, hi⟩ := hg
    obtain ⟨hs, hgd, hx, es', ep', hdt, hsz, ent⟩ := I.frzV hd
    obtain ⟨rfl, rfl⟩ := dict_ep hod hdt
    obtain ⟨⟨k, v⟩, hkv⟩ : ∃ p, kvs[i]? = some p := ⟨kvs[i], List.getElem?_eq_getElem hi⟩
    obtain ⟨en, q, hen, hkey, hq, rv⟩ := ent i k v hkv
    obtain ⟨ok, ov, he⟩ := st
    have ltI : it < s.heap.objs.size := Heap.lt_size he
    have hi2 : i < es'.size := by rw [hsz]; exact hi
    have een : es'[i] = en := by
      rw [Array.getElem?_eq_getElem hi2] at hen
      exact Option.some.inj hen
    rw [← hsz] at he
    refine wpAny_pyNext_items_item_raw he ⟨o, hgd, hx, hdt⟩ hi2 fun h' ho hT hz hk => ?_
    refine ⟨_, rfl, wpAny_letOwnedTupleGo_items (s := { s with heap := h' }) ho fun h'' he' sb => ?_⟩
    have hT2 : h''.get? s.heap.objs.size = some { cls := .type "tuple", data := .seq #[es'[i].key, es'[i].val] } := (sb.2 _ (Nat.ne_of_gt ltI)).trans hT
    rw [een, hkey] at hT2
    have new : ObjOk X.prog X.w (upd H s.heap.objs.size (.tup [.ref q, v])) h'' s.heap.objs.size (.tup [.ref q, v]) :=
      ⟨by show 2 ≤ sizeLine; decide, [.ref q, en.val], .cons rfl (.cons rv .nil), ⟨_, hT2, rfl, _, rfl⟩⟩
    have I1 : Inv X pins σ (upd H s.heap.objs.size (.tup [.ref q, v])) { s with heap := h'' } :=
      I.turnedNew (t' := s.toks) (ch := [it]) (fun b ob hb e => (sb.2 b (by simpa using hb)).trans (hk b ob (by simpa using hb) e)) hf (Nat.le_refl _) new
    refine ⟨.ref s.heap.objs.size, _, I1, rfl, ⟨_, k, v, q, hkv, hq, rfl, I.hok.fresh (Nat.le_refl _), rfl⟩, ⟨es'[i].key, es'[i].val, ?_⟩, fun b hb => ?_⟩
    · rw [← hsz]; exact he'
    · have e : b = it := by simpa using hb
      rw [e, upd_ne (Nat.ne_of_lt ltI)]
      exact (hf it (by simp)).1
  done := by
    intro X hP hw hK hc i pins s σ H E I hf st hg
    subst hP hw hK
    obtain ⟨hd, hi⟩ := hg
    obtain ⟨f0, f1, f2, f3, f4, f5⟩ := hf it (by simp)
    obtain ⟨hs, hgd, hx, es', ep', hdt, hsz, ent⟩ := I.frzV hd
    obtain ⟨rfl, rfl⟩ := dict_ep hod hdt
    obtain ⟨ok, ov, he⟩ := st
    rw [← hsz] at he
    exact wpAny_pyNext_items_end_raw (I.ok.hd hc) he ⟨o, hgd, hx, hdt⟩ (by omega) fun h' eb => ⟨rfl, I.turned (t' := s.toks) (fun b ob hb e => eb b ob hb e) f0 f1 f3 f4 f5⟩
  self := fun A i s Q E st h => let ⟨_, _, e⟩ := st; PySem.W.kcp_self e h
/-- the dict is locked -/
def iItemsT (td : TE) : TI := fun σ H R => td σ H fun x H1 => ∃ d o kvs, x = .ref d ∧ H1 d = some (.frz o (.dT kvs)) ∧ R (ItiT d o kvs) H1
theorem pi_itemsT {X : Cx} {e : Expr} {td : TE} {apos cpos : Pos} {elts : List Expr} {kk : Nat} {tpos : Pos} (he : PE X e td) (hbase : attributeBase e "items" X.env (eval e X.env) = eval e X.env := by rfl) (hline : (apos.endLine == cpos.line) = true := by rfl) :
    PI X (.Tuple elts kk tpos) (.Call (.Attribute e "items" apos) [] [] cpos) (iItemsT td) := by
  refine ⟨fun pins s σ H R I h => ?_⟩
  refine wpAny_Call_method (T := "dict") (id := "dict.items") hbase rfl hline F.plainAttrs_dict F.slot_dict_items F.type_dict_items (thn (he.run pins s σ H _ I h) fun u s1 ⟨x, H1, I1, rx, d, o, kvs, ex, hd, q⟩ => ?_)
  subst ex
  obtain rfl : u = Value.ref d := rx
  obtain ⟨hs, hgd, hx, es, ep, hdt, hsz, ent⟩ := I1.frzV hd
  have hm : s1.heap.DictRaw d es ep := ⟨o, hgd, hx, hdt⟩
  refine ⟨hm.typeIs, fun oo eo => ?_, ?_⟩
  · cases eo
    exact ⟨o, hgd, hx.2.1⟩
  have I2 : Inv X pins σ H1 { s1 with heap := s1.heap.push { cls := .type "dict_items", data := .fields #[.ref d] } } := I1.kept (t' := s1.toks) fun b ob q => Heap.get?_push_of_some _ q
  have fin : wpAny (model X.prog X.w) X.A (pyIter (.ref s1.heap.objs.size)) (PIE X pins σ (.Tuple elts kk tpos) R) X.xe { s1 with heap := s1.heap.push { cls := .type "dict_items", data := .fields #[.ref d] } } := by
    refine wpAny_pyIter_items_raw (d := d) ⟨_, Heap.get?_push_size _ rfl, rfl, rfl⟩ (hm.at fun u e => Heap.get?_push_of_some _ e) (pi_one (tk := s1.toks) I2 _ (turn_itemsT _ hdt) ⟨.none, .none, ?_⟩ q)
    rw [← hsz]
    exact Heap.get?_push_size _ rfl
  show wpAny _ _ (callWith cpos (.builtin "dict.items") [.ref d] [] []) _ X.xe s1
  exact method_meetsIn F.slot_dict_items F.entry_dict_items rfl (PySem.evalArgs_none ⟨rfl, hm.typeIs, F.args_dict_items_1 _, _, meets_dict_items_raw d hs, ⟨es, ep, hm⟩, fin⟩)
theorem walk_itemsT {d : Addr} {o : Obj} {kvs : List (List Key × V)} : Walk (ItiT d o kvs) kvs.length (fun H => H d = some (.frz o (.dT kvs)))
    (fun i H x H' => ∃ T k v q, kvs[i]? = some (k, v) ∧ H q = some (.tup (k.map kV)) ∧ x = .ref T ∧ H T = none ∧ H' = upd H T (.tup [.ref q, v])) :=
  ⟨fun _ _ hi q => ⟨q, hi⟩, fun _ q => ⟨q, Nat.le_refl _⟩, fun _ _ _ _ _ _ y => y⟩
end L2

/-! list(a text) -/
namespace L2
open PySem PySem.Spec PyProof.Rows
def rListStr : List V → Hp → VK → Prop := fun xs H Q => ∃ z : Str, xs = [.str z] ∧ z.cps.size ≤ 1000000 ∧ ∀ l, H l = none → Q (.ref l) (upd H l (.lst (z.cps.toList.map fun c => V.str ⟨#[c]⟩)))
theorem cr_listStr {X : Cx} (hc : X.calm = true) : CallR X (.type "list") rListStr := by
  intro pins s σ H xs us Q I r h
  obtain ⟨z, rfl, hz, q⟩ := h
  obtain ⟨u, rfl, t, rfl⟩ := vals1 r
  have hz2 : z.cps.size ≤ sizeLine := Nat.le_trans hz (by decide)
  refine call_list_str (I.ok.hd hc) z t (fun h' tk acc' c' kp hg it => ?_) hz2
  have hv : Vals (z.cps.toList.map fun c => V.str ⟨#[c]⟩) acc'.toList := vals_of_idx _ _ (by simp [it.1]) fun j v hj => by
    obtain ⟨c, u, e1, e2⟩ := it.2 j v (by simpa using hj)
    exact ⟨.str ⟨#[c]⟩, by simp [e1], u, e2⟩
  refine ⟨.ref s.heap.objs.size, _, I.laid (t' := tk) kp (Nat.le_refl _) (show ObjOk X.prog X.w _ h' _ (.lst (z.cps.toList.map fun c => V.str ⟨#[c]⟩)) from ⟨by simpa using hz2, acc'.toList, c', hv, by simpa using hg⟩), rfl, q _ (I.hok.fresh (Nat.le_refl _))⟩
end L2

/-! str.count -/
namespace L2
open PySem PySem.Spec PyProof.Rows
variable {X : Cx}
def rCount : V → List V → Hp → VK → Prop := fun x xs H Q => ∃ a b, x = .str a ∧ xs = [.str b] ∧ Q (.int (Txt.count a b)) H
theorem mt_countA : MtR X "str.count" rCount := mt_count
end L2

/-! list(a dict) -/
namespace L2
open PySem PySem.Spec PyProof.Rows
def rListDk : List V → Hp → VK → Prop := fun xs H Q => ∃ (a : Addr) (kvs : List (Key × V)), xs = [.ref a] ∧ Rd H a (.dK kvs) ∧ ∀ p, H p = none → Q (.ref p) (upd H p (.lst (kvs.map fun kv => kV kv.1)))
theorem cr_listDk {X : Cx} (hc : X.calm = true) : CallR X (.type "list") rListDk := call_listD hc
end L2

/-! sets of tuples of ints and texts (fewer than 64) as a Kit; the table's words are TupSets' own -/
namespace L2
open PySem PySem.Spec PyProof.Rows
namespace SetX
/-- a member: where the tuple lies, and its items -/
abbrev MU := Addr × List Key
def hU (P : Program) (w : World) (k : List Key) : Int := tupleKeyHash (mixKind P w) k
def AtU (P : Program) (w : World) (h : Heap) (m : MU) : Prop := IsTupleKey (mixKind P w) h m.2 m.1
theorem AtU.kept {P : Program} {w : World} {h h' : Heap} {m : MU} (i : AtU P w h m) (k : ∀ b o, h.get? b = some o → h'.get? b = some o) : AtU P w h' m :=
  let ⟨o, vs, n, e, r⟩ := i
  ⟨o, vs, n, k _ _ e, r⟩
theorem AtU.beside {P : Program} {w : World} {h h' : Heap} {m : MU} {a : Addr} {o : Obj} {es : Array (Int × Value)} {ep : Nat} {t : SetTable} (i : AtU P w h m) (e : h.get? a = some o) (d : o.data = .set es ep t) (sb : Heap.SameBut a h h') : AtU P w h' m := by
  obtain ⟨u, vs, n, e2, c, d2, it⟩ := i
  have ne : m.1 ≠ a := fun z => by
    rw [z, e] at e2
    cases e2
    rw [d] at d2
    cases d2
  exact ⟨u, vs, n, by rw [sb.2 _ ne]; exact e2, c, d2, it⟩
/-- what the entries and the table of a set of tuples are -/
structure TabU (P : Program) (w : World) (L : List MU) (es : Array (Int × Value)) (t : SetTable) : Prop where
  row : es.toList = L.map fun m => (hU P w m.2, Value.ref m.1)
  tab : TabOk t (L.map fun m => hU P w m.2)
  one : (L.map Prod.snd).Nodup
  ld : w.params.followText "set-order" = true ∨ t.led = true
  rm : L.length * 5 < t.mask * 3
  few : L.length < 64
def SetU (P : Program) (w : World) (h : Heap) (a : Addr) (L : List MU) : Prop := ∃ o es ep t, h.get? a = some o ∧ o.ExactSet ∧ o.data = .set es ep t ∧ TabU P w L es t
section
variable {P : Program} {w : World} {A : Around} {E : Value → Shared → Prop} {s : Shared} {L : List MU} {es : Array (Int × Value)} {t : SetTable}
theorem TabU.num (T : TabU P w L es t) : es.size = L.length := by
  have := congrArg List.length T.row
  rwa [Array.length_toList, List.length_map] at this
theorem TabU.fit (T : TabU P w L es t) : t.fits es.size = true := by
  have a := T.tab.sz
  have b := T.num
  have c := T.rm
  rw [List.length_map] at a
  simp only [SetTable.fits, SetTable.fill, T.tab.dm, Bool.and_eq_true, beq_iff_eq, decide_eq_true_eq]
  exact ⟨by omega, by show t.place.size + 0 ≤ t.mask; omega⟩
theorem TabU.at_ (T : TabU P w L es t) {i : Nat} {m : MU} (e : L[i]? = some m) : es[i]? = some (hU P w m.2, Value.ref m.1) := by
  rw [← Array.getElem?_toList, T.row, List.getElem?_map, e]
  rfl
theorem TabU.stands (T : TabU P w L es t) : ¬ t.gaveWay = true := by
  have := mask_odd T.tab.mok
  unfold SetTable.gaveWay
  rw [this]
  decide
theorem leaf_items {k : List Key} {vs : List Value} (h : ItemsAre (mixKind P w) k vs) : ∀ v ∈ vs, ∃ j, keyIs j v = true := by
  induction h with
  | nil => exact fun _ z => nomatch z
  | cons e _ ih => exact fun v z => (List.mem_cons.mp z).elim (fun q => ⟨_, q ▸ e⟩) (ih v)
theorem leaf_cls (n : Nat) {j : Key} {v : Value} (e : keyIs j v = true) : ofAClassStatement n v = pure false := by
  rcases keyIs_shape e with ⟨_, _, _, rfl⟩ | ⟨_, _, _, rfl⟩ <;> cases n <;> rfl
theorem leaf_val (n : Nat) {j : Key} {v : Value} (e : keyIs j v = true) : ∃ b, hashByValue n v = pure b := by
  rcases keyIs_shape e with ⟨_, _, _, rfl⟩ | ⟨_, _, _, rfl⟩
  · exact ⟨true, by cases n <;> rfl⟩
  · exact ⟨false, by cases n <;> rfl⟩
/-- no item of the tuple is of a class statement -/
theorem tupU_cls {m : MU} {Q : Bool → Shared → Prop} (i : AtU P w s.heap m) (h : Q false s) : wpAny (model P w) A (ofAClassStatement 8 (.ref m.1)) Q E s := by
  have ty := IsTupleKey.typeIs i
  obtain ⟨o, vs, n, e, _, d, it⟩ := i
  have all := leaf_items it
  unfold ofAClassStatement
  refine wpAny_bind (wpAny_typeOf ty ?_)
  dsimp only
  rw [show (("tuple" : String) == "tuple") = true from rfl]
  simp only [if_true]
  refine wpAny_bind (wpAny_pure ?_)
  rw [if_neg (by decide)]
  first | skip | refine wpAny_bind (wpAny_pure ?_)
  refine wpAny_bind (wpAny_seqItems e d ?_)
  dsimp only
  refine wpAny_bind ?_
  rw [← Array.forIn_toList]
  refine wpAny_forIn_list _ (fun l r s' => (r.1 = none ∧ s' = s) ∧ ∀ v ∈ l, ∃ j, keyIs j v = true) _ ?_ ?_ _ _ ⟨⟨rfl, rfl⟩, all⟩
  · rintro v l r s' ⟨⟨e1, rfl⟩, rest⟩
    obtain ⟨j, ej⟩ := rest v List.mem_cons_self
    rw [leaf_cls _ ej]
    refine wpAny_bind (wpAny_pure ?_)
    rw [if_neg (by decide)]
    exact wpAny_pure ⟨⟨rfl, rfl⟩, fun u hu => rest u (List.mem_cons_of_mem _ hu)⟩
  · rintro ⟨r1, r2⟩ s' ⟨⟨e1, rfl⟩, _⟩
    cases e1
    exact wpAny_pure h
theorem tupU_val {m : MU} {Q : Bool → Shared → Prop} (i : AtU P w s.heap m) (h : ∀ b, Q b s) : wpAny (model P w) A (hashByValue 8 (.ref m.1)) Q E s := by
  have ty := IsTupleKey.typeIs i
  obtain ⟨o, vs, n, e, _, d, it⟩ := i
  have all := leaf_items it
  unfold hashByValue
  refine wpAny_bind (wpAny_specialOf ty F.slot_tuple_hash.lookup ?_)
  dsimp only
  refine wpAny_bind (wpAny_seqItems e d ?_)
  refine wpAny_bind ?_
  show wpAny _ _ (forIn vs _ _) _ _ s
  rw [← Array.forIn_toList]
  refine wpAny_forIn_list _ (fun l r s' => s' = s ∧ ∀ v ∈ l, ∃ j, keyIs j v = true) _ ?_ ?_ _ _ ⟨rfl, all⟩
  · rintro v l r s' ⟨rfl, rest⟩
    obtain ⟨j, ej⟩ := rest v List.mem_cons_self
    obtain ⟨b, eb⟩ := leaf_val 7 ej
    rw [eb]
    refine wpAny_bind (wpAny_pure ?_)
    cases b
    · rw [if_pos (by decide)]
      exact wpAny_pure (wpAny_pure (h false))
    · rw [if_neg (by decide)]
      exact wpAny_pure ⟨rfl, fun u hu => rest u (List.mem_cons_of_mem _ hu)⟩
  · rintro ⟨r1, r2⟩ s' ⟨rfl, _⟩
    cases r1 with
    | none => exact wpAny_pure (h true)
    | some b => exact wpAny_pure (h b)
/-- to look for a tuple among tuples shows nothing -/
theorem seenU {m : MU} {ys : List Value} {Q : Bool → Shared → Prop} (i : AtU P w s.heap m) (hy : ∀ y ∈ ys, ∃ n : MU, y = Value.ref n.1 ∧ AtU P w s.heap n) (h : Q false s) : wpAny (model P w) A (searchCouldBeSeen (.ref m.1) ys) Q E s := by
  unfold searchCouldBeSeen
  refine wpAny_bind ?_
  refine wpAny_forIn_list _ (fun l r s' => (r.1 = none ∧ s' = s) ∧ ∀ y ∈ l, ∃ n : MU, y = Value.ref n.1 ∧ AtU P w s.heap n) _ ?_ ?_ _ _ ⟨⟨rfl, rfl⟩, hy⟩
  · rintro v l r s' ⟨⟨e1, rfl⟩, all⟩
    obtain ⟨n, rfl, j⟩ := all v List.mem_cons_self
    have nx : ∀ y ∈ l, ∃ n : MU, y = Value.ref n.1 ∧ AtU P w s'.heap n := fun y z => all y (List.mem_cons_of_mem _ z)
    dsimp only
    refine wpAny_ite_split (fun _ => wpAny_pure ⟨⟨rfl, rfl⟩, nx⟩) fun _ => ?_
    refine wpAny_bind (wpAny_eqIsQuiet_tuple i ?_)
    rw [if_neg (by decide)]
    refine wpAny_bind (wpAny_eqIsQuiet_tuple j ?_)
    rw [if_neg (by decide)]
    refine wpAny_bind (tupU_cls i ?_)
    rw [if_neg (by decide)]
    refine wpAny_bind (tupU_cls j ?_)
    rw [if_neg (by decide)]
    exact wpAny_pure ⟨⟨rfl, rfl⟩, nx⟩
  · rintro ⟨r1, r2⟩ s' ⟨⟨e1, rfl⟩, _⟩
    cases e1
    exact wpAny_pure h
/-- the c-th probe of a search for the hash z -/
abbrev prb (t : SetTable) (z : Int) (c : Nat) : SetTable.Probe := nth t.mask (runAt t.mask (SetTable.bits z % (t.mask + 1)) (SetTable.bits z)) c
theorem prb_add (t : SetTable) (z : Int) (c q : Nat) : nth t.mask (prb t z c) q = prb t z (c + q) := (nth_add t.mask c _ q).symm
theorem prb_dummy (t : SetTable) (z : Int) (c : Nat) : (prb t z c).dummy = none := by
  have : ∀ (c : Nat) (p : SetTable.Probe), p.dummy = none → (nth t.mask p c).dummy = none := fun c => by
    induction c with
    | zero => exact fun _ e => e
    | succ c ih => exact fun p e => ih _ (by unfold adv; split <;> exact e)
  exact this c _ rfl
variable {a : Addr} {o : Obj} {ep : Nat}
/-- the search of an adding, from the c-th probe on; the K-th slot is the first empty one -/
theorem find_from {m : MU} {K : Nat} {Q : SetFound → Shared → Prop} (T : TabU P w L es t) (eo : s.heap.get? a = some o) (d : o.data = .set es ep t) (all : ∀ x ∈ L, AtU P w s.heap x) (i : AtU P w s.heap m) (hu : A.units < cLine) (Kf : K < 10 * SetTable.turns t.mask)
    (free : (prb t (hU P w m.2) K).j ∉ t.place.toList) (took : ∀ c, c < K → (prb t (hU P w m.2) c).j ∈ t.place.toList) (hin : (∃ x ∈ L, x.2 = m.2) → Q (.there none) s) (hout : (∀ x ∈ L, x.2 ≠ m.2) → Q (.free (prb t (hU P w m.2) K).j false) s) :
    ∀ (n c f : Nat) (st : Option SetTable.Probe), K - c = n → n < f → c ≤ K → st.getD (t.probeStart (hU P w m.2)) = prb t (hU P w m.2) c → (∀ (j : Nat) (x : MU), L[j]? = some x → x.2 = m.2 → ∃ c', c ≤ c' ∧ c' < K ∧ t.place.toList[j]? = some (prb t (hU P w m.2) c').j) →
      wpAny (model P w) A (setSearchFrom a (.ref m.1) (hU P w m.2) true f st) Q E s := by
  intro n
  induction n using Nat.strongRecOn with
  | ind n ih =>
    intro c f st en lf ck est late
    cases f with
    | zero => exact absurd lf (Nat.not_lt_zero _)
    | succ f =>
      generalize hz : hU P w m.2 = z at *
      rw [setSearchFrom_succ]
      refine wpAny_bind (wpAny_setState_of eo d T.fit ?_)
      dsimp only
      rw [if_neg T.stands]
      first | skip | refine wpAny_bind (wpAny_pure ?_)
      have hash : ∀ (j : Nat) (x : MU), L[j]? = some x → (es[j]?.map (·.1)).getD 0 = hU P w x.2 := fun j x e => by rw [T.at_ e]; rfl
      have word := go_spec t T.tab.ris T.tab.dm (fun j => (es[j]?.map (·.1)).getD 0) z (10 * SetTable.turns t.mask) (K - c) (prb t z c) (prb_dummy t z c) (by omega)
        (fun q hq => by rw [prb_add]; exact took _ (by omega)) (by rw [prb_add, Nat.add_sub_cancel' ck]; exact free)
      simp only [prb_add] at word
      have passed : ∀ {j : Nat} {x : MU} {c' : Nat}, (∀ q j' : Nat, q < c' → t.place.toList[j']? = some (prb t z (c + q)).j → (es[j']?.map (·.1)).getD 0 ≠ z) → L[j]? = some x → x.2 = m.2 → ∃ c2, c + c' ≤ c2 ∧ c2 < K ∧ t.place.toList[j]? = some (prb t z c2).j := fun {j x c'} no e k => by
        obtain ⟨c2, l1, l2, e2⟩ := late j x e k
        refine ⟨c2, ?_, l2, e2⟩
        by_cases g : c + c' ≤ c2
        · exact g
        · exfalso
          refine no (c2 - c) j (by omega) (by rw [Nat.add_sub_cancel' l1]; exact e2) ?_
          rw [hash j x e, k, hz]
      rcases word with ⟨q, j, lq, ej, hh, no, go⟩ | ⟨no, go⟩
      · have lj : j < L.length := by
          have g1 := (List.getElem?_eq_some_iff.mp ej).1
          have g2 := T.tab.sz
          rw [List.length_map] at g2
          rw [Array.length_toList] at g1
          omega
        have ex : L[j]? = some L[j] := List.getElem?_eq_getElem lj
        have mx := List.getElem_mem lj
        generalize L[j] = x at ex mx
        have go' : t.probe (fun j => (es[j]?.map (·.1)).getD 0) z (st.getD (t.probeStart z)) = some (.candidate (prb t z (c + q)).j j (prb t z (c + (q + 1)))) := by rw [est]; exact go
        rw [go']
        dsimp only
        have rest : wpAny (model P w) A (searchRest a (.ref m.1) z true f es t (prb t z (c + q)).j j (prb t z (c + (q + 1)))) Q E s := by
          unfold searchRest
          rw [T.at_ ex]
          dsimp only
          refine wpAny_bind (wpAny_holding (wpAny_eqBool_tuple hu (all x mx) i ?_))
          refine wpAny_bind (wpAny_setState_of eo d T.fit ?_)
          dsimp only
          by_cases k : x.2 = m.2
          · rw [if_pos (by simp [k])]
            exact wpAny_pure (hin ⟨x, mx, k⟩)
          · rw [if_neg (by simp [k])]
            first | skip | refine wpAny_bind (wpAny_pure ?_)
            rw [sameMem]
            dsimp only
            rw [if_pos rfl, slot_live T.tab.ris ej]
            dsimp only
            rw [T.at_ ex]
            dsimp only
            refine wpAny_bind (wpAny_isSame_ref_self (wpAny_bind (wpAny_pure ?_)))
            rw [if_pos rfl]
            dsimp only
            rw [if_neg (by simp [k])]
            refine ih (K - (c + (q + 1))) (by omega) (c + (q + 1)) f _ rfl (by omega) (by omega) rfl fun j2 x2 e2 k2 => ?_
            obtain ⟨c2, l1, l2, e3⟩ := passed no e2 k2
            refine ⟨c2, ?_, l2, e3⟩
            by_cases g : c2 = c + q
            · exfalso
              have u1 := slot_live T.tab.ris e3
              rw [g, slot_live T.tab.ris ej] at u1
              injection u1 with u1
              rw [← u1, ex] at e2
              cases e2
              exact k k2
            · omega
        refine wpAny_ite_split (fun _ => ?_) fun _ => ?_
        · refine wpAny_bind (seenU i (fun y hy => ?_) ?_)
          · obtain ⟨en, he, rfl⟩ := List.mem_map.mp hy
            have he2 : en ∈ es.toList := by
              have := Array.mem_toList_iff.mp he
              exact Array.mem_toList_iff.mpr (Array.mem_filter.mp this).1
            rw [T.row] at he2
            obtain ⟨x2, hx2, rfl⟩ := List.mem_map.mp he2
            exact ⟨x2, rfl, all x2 hx2⟩
          · rw [if_neg (by decide)]
            exact rest
        · exact rest
      · have go' : t.probe (fun j => (es[j]?.map (·.1)).getD 0) z (st.getD (t.probeStart z)) = some (.empty (prb t z K).j none) := by
          rw [est, ← Nat.add_sub_cancel' ck]
          exact go
        rw [go']
        dsimp only
        refine wpAny_pure (hout fun x hx k => ?_)
        obtain ⟨j, lj, ej⟩ := List.getElem_of_mem hx
        obtain ⟨c2, l1, l2, _⟩ := passed no (by rw [List.getElem?_eq_getElem lj, ej]) k
        omega
theorem findU {m : MU} {Q : SetFound → Shared → Prop} (T : TabU P w L es t) (eo : s.heap.get? a = some o) (d : o.data = .set es ep t) (all : ∀ x ∈ L, AtU P w s.heap x) (i : AtU P w s.heap m) (hu : A.units < cLine) (hin : (∃ x ∈ L, x.2 = m.2) → Q (.there none) s)
    (hout : ∀ K, (∀ x ∈ L, x.2 ≠ m.2) → way t.mask (hU P w m.2) K ∉ t.place.toList → (∀ c, c < K → way t.mask (hU P w m.2) c ∈ t.place.toList) → Q (.free (way t.mask (hU P w m.2) K) false) s) :
    wpAny (model P w) A (setSearch a (.ref m.1) (hU P w m.2) true) Q E s := by
  have rm := T.rm
  obtain ⟨K, k1, k2, k3⟩ := T.tab.first (by rw [List.length_map]; omega) (hU P w m.2)
  have few : K < 99999 := by
    have : 10 * SetTable.turns t.mask ≤ 1420 := by
      unfold SetTable.turns
      rcases T.tab.mok with z | z | z <;> omega
    omega
  unfold setSearch
  refine find_from T eo d all i hu k1 k2 k3 hin (fun no => hout K no k2 k3) K 0 _ none rfl (by omega) (Nat.zero_le _) rfl fun j x ex k => ?_
  have lj : j < t.place.toList.length := by
    have g1 := (List.getElem?_eq_some_iff.mp ex).1
    have g2 := T.tab.sz
    rw [List.length_map] at g2
    rw [Array.length_toList]
    omega
  obtain ⟨c, lc, ec⟩ := T.tab.before k2 (i := j) (by rw [List.getElem?_map, ex, ← k]; rfl) (List.getElem?_eq_getElem lj)
  exact ⟨c, Nat.zero_le _, lc, by rw [List.getElem?_eq_getElem lj, ← ec]⟩
theorem all_range {α : Type} (L : List α) : (List.range L.length).filterMap (fun i => L[i]?) = L := by
  have : ∀ n, n ≤ L.length → (List.range n).filterMap (fun i => L[i]?) = L.take n := fun n => by
    induction n with
    | zero => exact fun _ => by simp
    | succ n ih => exact fun h => by rw [List.range_succ, List.filterMap_append, ih (by omega), List.take_succ_eq_append_getElem h]; simp [List.getElem?_eq_getElem h]
  rw [this _ (Nat.le_refl _), List.take_length]
theorem rows_get (row : es.toList = L.map fun m => (hU P w m.2, Value.ref m.1)) (j : Nat) : es[j]? = (L[j]?).map fun m => (hU P w m.2, Value.ref m.1) := by rw [← Array.getElem?_toList, row, List.getElem?_map]
/-- the entries in another order -/
theorem rows_turn (row : es.toList = L.map fun m => (hU P w m.2, Value.ref m.1)) {od : Array Nat} (pm : od.toList.Perm (List.range L.length)) :
    ∃ L2 : List MU, L2.Perm L ∧ (od.filterMap (es[·]?)).toList = L2.map (fun m => (hU P w m.2, Value.ref m.1)) ∧ (L2.map fun m => hU P w m.2) = od.toList.map fun i => (es.map (·.1)).getD i 0 := by
  refine ⟨od.toList.filterMap fun i => L[i]?, (pm.filterMap _).trans (by rw [all_range]), ?_, ?_⟩
  · rw [Array.toList_filterMap, List.map_filterMap]
    exact congrArg (fun f => od.toList.filterMap f) (funext fun j => rows_get row j)
  · have lt : ∀ i ∈ od.toList, i < L.length := fun i hi => List.mem_range.mp (pm.mem_iff.mp hi)
    generalize od.toList = l at lt
    induction l with
    | nil => rfl
    | cons i l ih =>
      have hi := lt i List.mem_cons_self
      rw [List.filterMap_cons_some (List.getElem?_eq_getElem hi), List.map_cons, List.map_cons, ih fun j hj => lt j (List.mem_cons_of_mem _ hj)]
      congr 1
      have e := rows_get row i
      rw [List.getElem?_eq_getElem hi] at e
      rw [Array.getD_eq_getD_getElem?, Array.getElem?_map, e]
      rfl
/-- the table laid anew -/
theorem relayU {wanted M : Nat} {Q : Unit → Shared → Prop} (eo : s.heap.get? a = some o) (ox : o.ExactSet) (d : o.data = .set es ep t) (row : es.toList = L.map fun m => (hU P w m.2, Value.ref m.1)) (sz : t.place.size = es.size) (dm : t.dummies = #[]) (sm : es.size ≤ t.mask)
    (one : (L.map Prod.snd).Nodup) (ld : w.params.followText "set-order" = true ∨ t.led = true) (few : L.length < 64) (wM : SetTable.sizeAbove wanted - 1 = M) (mM : MaskOk M) (wl : SetTable.sizeAbove wanted ≤ 128) (rm : L.length * 5 < M * 3)
    (q : ∀ h' L', Heap.SameBut a s.heap h' → SetU P w h' a L' → L'.Perm L → Q () { s with heap := h' }) : wpAny (model P w) A (setRelay a wanted) Q E s := by
  have num : es.size = L.length := by
    have := congrArg List.length row
    rwa [Array.length_toList, List.length_map] at this
  have fit : t.fits es.size = true := by
    simp only [SetTable.fits, SetTable.fill, dm, Bool.and_eq_true, beq_iff_eq, decide_eq_true_eq]
    exact ⟨sz, by show t.place.size + 0 ≤ t.mask; omega⟩
  obtain ⟨t', od, e, pm, T, em, el, _, _⟩ := relaid_ok t (hs := es.map (·.1)) wM mM (by rw [Array.size_map]; omega)
  rw [Array.size_map, num] at pm
  obtain ⟨L2, pm2, row2, hash2⟩ := rows_turn row pm
  rw [← hash2] at T
  have num2 : (od.filterMap (es[·]?)).size = es.size := by
    have := congrArg List.length row2
    rw [Array.length_toList, List.length_map, pm2.length_eq] at this
    rw [this, num]
  rw [setRelay_eq]
  refine wpAny_bind (wpAny_setState_of eo d fit ?_)
  dsimp only
  refine wp_if_neg (by rw [sizeLine_eq]; omega) ?_
  first | skip | refine wpAny_bind (wpAny_pure ?_)
  rw [e]
  dsimp only
  refine wpAny_bind ?_
  refine wp_if_neg (by rw [num2]; simp) ?_
  first | skip | refine wpAny_bind (wpAny_pure ?_)
  refine wpAny_pure ?_
  refine wpAny_storeSet_of eo d ?_ (by rw [num2, sizeLine_eq]; omega)
  refine q _ L2 (Heap.SameBut.update _ a _) ⟨_, _, _, t', store_at eo d, ⟨ox.1, ox.2.1, ox.2.2⟩, rfl, row2, T, (pm2.map _).nodup_iff.mpr one, by rw [el]; exact ld, by rw [pm2.length_eq, em]; exact rm, by rw [pm2.length_eq]; exact few⟩ pm2
def datU (m : MU) : PyData := .tuple (m.2.map kD)
theorem datU_inj {x y : MU} (h : datU x = datU y) : x.2 = y.2 := by
  have : ∀ {k j : List Key}, k.map kD = j.map kD → k = j := fun {k} => by
    induction k with
    | nil => intro j e; cases j with | nil => rfl | cons _ _ => cases e
    | cons u k ih =>
      intro j e
      cases j with
      | nil => cases e
      | cons v j =>
        injection e with e1 e2
        rw [kD_inj e1, ih e2]
  injection h with h
  exact this h
theorem SetU.own {h : Heap} (R : SetU P w h a L) : ∃ o es ep t, h.get? a = some o ∧ o.ExactSet ∧ o.data = .set es ep t ∧ TabU P w L es t := R
theorem addU {m : MU} {Q : Bool → Shared → Prop} (R : SetU P w s.heap a L) (all : ∀ x ∈ L, AtU P w s.heap x) (i : AtU P w s.heap m) (hu : A.units < cLine) (room : L.length + 1 < 64)
    (q : ∀ h' b L', Heap.SameBut a s.heap h' → SetU P w h' a L' → Added datU L m L' → Q b { s with heap := h' }) : wpAny (model P w) A (setAddHashed a (.ref m.1) (hU P w m.2)) Q E s := by
  obtain ⟨o, es, ep, t, eo, ox, d, T⟩ := R
  have num := T.num
  have rm := T.rm
  unfold setAddHashed
  refine wpAny_holding ?_
  rw [show (100000 : Nat) = 99999 + 1 from rfl, setAddHashedIn_succ]
  refine wpAny_bind (wpAny_setState_of eo d T.fit ?_)
  dsimp only
  refine wp_if_neg (by simp [byScan, Value.scannable]) ?_
  first | skip | refine wpAny_bind (wpAny_pure ?_)
  refine wpAny_bind (findU T eo d all i hu (fun hm => ?_) fun K no free took => ?_)
  · obtain ⟨x, hx, k⟩ := hm
    dsimp only
    exact wpAny_pure (q s.heap false L (Heap.SameBut.refl a s.heap) ⟨o, es, ep, t, eo, ox, d, T⟩ (.inl ⟨⟨x, hx, by unfold datU; rw [k]⟩, rfl⟩))
  · dsimp only
    refine wpAny_bind (wpAny_setState_of eo d T.fit ?_)
    dsimp only
    obtain ⟨p1, p2, p3, p4, p5, p6, _, _, p9⟩ := T.tab.put free took
    generalize way t.mask (hU P w m.2) K = slot at p1 p2 p3 p4 p5 p6 p9 ⊢
    generalize t.put slot = pt at p1 p3 p4 p5 p6 p9 ⊢
    obtain ⟨t1, pl⟩ := pt
    dsimp only at p1 p3 p4 p5 p6 p9 ⊢
    subst p1
    generalize SetTable.below t.place slot = pl at p2 p3 ⊢
    -- the members with the new one at its place
    have pm : (L.take pl ++ m :: L.drop pl).Perm (m :: L) := by
      have z : (L.take pl ++ m :: L.drop pl).Perm (m :: (L.take pl ++ L.drop pl)) := List.perm_middle
      rwa [List.take_append_drop] at z
    have row1 : (SetTable.insertAt es pl (hU P w m.2, Value.ref m.1)).toList = (L.take pl ++ m :: L.drop pl).map fun m => (hU P w m.2, Value.ref m.1) := by
      rw [SetTable.toList_insertAt, T.row, List.map_append, List.map_cons, List.map_take, List.map_drop]
    have tab1 : TabOk t1 ((L.take pl ++ m :: L.drop pl).map fun m => hU P w m.2) := by
      rw [List.map_append, List.map_cons, List.map_take, List.map_drop]
      exact p3
    have one1 : ((L.take pl ++ m :: L.drop pl).map Prod.snd).Nodup := by
      refine (pm.map Prod.snd).nodup_iff.mpr (List.nodup_cons.mpr ⟨fun z => ?_, T.one⟩)
      obtain ⟨x, hx, e⟩ := List.mem_map.mp z
      exact no x hx e
    have len1 := pm.length_eq
    rw [List.length_cons] at len1
    have num1 : (SetTable.insertAt es pl (hU P w m.2, Value.ref m.1)).size = L.length + 1 := by
      have := congrArg List.length row1
      rw [Array.length_toList, List.length_map, len1] at this
      exact this
    generalize SetTable.insertAt es pl (hU P w m.2, Value.ref m.1) = es1 at row1 num1 ⊢
    generalize L.take pl ++ m :: L.drop pl = L1 at pm row1 tab1 one1 len1
    have added : ∀ {L2 : List MU}, L2.Perm L1 → Added datU L m L2 := fun z => .inr ⟨fun x hx e => no x hx (datU_inj e), z.trans pm⟩
    have ld1 : w.params.followText "set-order" = true ∨ t1.led = true := by rw [p5]; exact T.ld
    have fill1 : t1.fill = L.length + 1 := by rw [p9, List.length_map]
    have m1 : t1.mask = t.mask := p4
    clear p2 p3 p4 p5 p6 p9
    -- what is done whether the table is plain or not
    have go : ∀ (t2 : SetTable), t2.place = t1.place → t2.dummies = t1.dummies → t2.mask = t1.mask → t2.led = t1.led → wpAny (model P w) A (do
        storeSet a es1 t2
        if !false && t2.tooFull then setRelay a (SetTable.grown (es.size + 1))
        return true) Q E s := fun t2 c1 c2 c3 c4 => by
      have tab2 : TabOk t2 (L1.map fun m => hU P w m.2) := ⟨by rw [c1]; exact tab1.ris, by rw [c2]; exact tab1.dm, by rw [c1]; exact tab1.sz, by rw [c3]; exact tab1.mok, by rw [c1, c3]; exact tab1.bd, by rw [c1, c3]; exact tab1.reach⟩
      have fill2 : t2.fill = L.length + 1 := by rw [← fill1]; unfold SetTable.fill; rw [c1, c2]
      have ld2 : w.params.followText "set-order" = true ∨ t2.led = true := by rw [c4]; exact ld1
      have m2 : t2.mask = t.mask := c3.trans m1
      refine wpAny_bind (wpAny_storeSet_of eo d ?_ (by rw [num1, sizeLine_eq]; omega))
      have sb : Heap.SameBut a s.heap (s.heap.update a (Obj.putSet es1 t2)) := Heap.SameBut.update _ a _
      have eo1 := store_at (es' := es1) (t' := t2) eo d
      generalize s.heap.update a (Obj.putSet es1 t2) = h1 at sb eo1 ⊢
      by_cases full : t2.tooFull = true
      · have f5 : (L.length + 1) * 5 ≥ t.mask * 3 := by
          unfold SetTable.tooFull at full
          rw [decide_eq_true_eq, fill2, m2] at full
          exact full
        have two : (t.mask = 7 ∧ L.length = 4) ∨ (t.mask = 31 ∧ L.length = 18) := by
          rcases T.tab.mok with z | z | z
          · exact .inl ⟨z, by rw [z] at f5 rm; omega⟩
          · exact .inr ⟨z, by rw [z] at f5 rm; omega⟩
          · exfalso; rw [z] at f5; omega
        have sz1 : t2.place.size = es1.size := by have := tab2.sz; rw [List.length_map, len1] at this; rw [this, num1]
        have lay : ∀ M, SetTable.sizeAbove (SetTable.grown (L.length + 1)) - 1 = M → MaskOk M → SetTable.sizeAbove (SetTable.grown (L.length + 1)) ≤ 128 → (L.length + 1) * 5 < M * 3 →
            wpAny (model P w) A (setRelay a (SetTable.grown (L.length + 1))) (fun _ s' => wpAny (model P w) A (pure true) Q E s') E { s with heap := h1 } := fun M y1 y2 y3 y4 =>
          relayU (s := { s with heap := h1 }) eo1 ⟨ox.1, ox.2.1, ox.2.2⟩ rfl row1 sz1 tab2.dm (by rw [num1, m2]; rcases two with ⟨z, y⟩ | ⟨z, y⟩ <;> omega) one1 ld2 (by omega) y1 y2 y3 (by omega) fun h2 L2 sb2 R2 pm2 =>
            wpAny_pure (q h2 true L2 (sb.trans sb2) R2 (added pm2))
        have both : wpAny (model P w) A (setRelay a (SetTable.grown (L.length + 1))) (fun _ s' => wpAny (model P w) A (pure true) Q E s') E { s with heap := h1 } := by
          rcases two with ⟨_, y⟩ | ⟨_, y⟩
          · exact lay 31 (by rw [y, size_20]) (.inr (.inl rfl)) (by rw [y, size_20]; decide) (by omega)
          · exact lay 127 (by rw [y, size_76]) (.inr (.inr rfl)) (by rw [y, size_76]; decide) (by omega)
        rw [num]
        first
          | exact wpAny_bind (wp_if_pos (by simp [full]) both)
          | exact wp_if_pos (by simp [full]) (wpAny_bind both)
      · have f5 : (L.length + 1) * 5 < t.mask * 3 := by
          unfold SetTable.tooFull at full
          rw [decide_eq_true_eq, fill2, m2] at full
          omega
        have fin : Q true { s with heap := h1 } := q h1 true L1 sb ⟨_, es1, _, t2, eo1, ⟨ox.1, ox.2.1, ox.2.2⟩, rfl, row1, tab2, one1, ld2, by rw [len1, m2]; exact f5, by omega⟩ (added (List.Perm.refl _))
        first
          | exact wpAny_bind (wp_if_neg (by simp [full]) (wpAny_pure (wpAny_pure fin)))
          | exact wp_if_neg (by simp [full]) (wpAny_pure fin)
    by_cases pl1 : t1.plain = true
    · first
        | (refine wpAny_bind (wp_if_pos pl1 (tupU_val i fun b => ?_)))
        | (refine wp_if_pos pl1 (wpAny_bind (tupU_val i fun b => ?_)))
      cases b
      · exact go { t1 with plain := false } rfl rfl rfl rfl
      · exact go t1 rfl rfl rfl rfl
    · first
        | (refine wpAny_bind (wp_if_neg pl1 (wpAny_pure ?_)))
        | (refine wp_if_neg pl1 (wpAny_bind (wpAny_pure ?_)))
      exact go t1 rfl rfl rfl rfl
theorem back_map {α β : Type} (f : α → β) {vs us : List β} (h : vs.Perm us) : ∀ {L : List α}, us = L.map f → ∃ L' : List α, L'.Perm L ∧ vs = L'.map f := by
  induction h with
  | nil =>
    intro L e
    cases L with
    | nil => exact ⟨[], List.Perm.refl _, rfl⟩
    | cons _ _ => cases e
  | cons x _ ih =>
    intro L e
    cases L with
    | nil => cases e
    | cons m L =>
      injection e with e1 e2
      obtain ⟨L', p, q⟩ := ih e2
      exact ⟨m :: L', p.cons m, by rw [e1, q]; rfl⟩
  | swap x y l =>
    intro L e
    match L, e with
    | m :: n :: L, e =>
      injection e with e1 e2
      injection e2 with e2 e3
      exact ⟨n :: m :: L, List.Perm.swap m n L, by rw [e1, e2, e3]; rfl⟩
  | trans _ _ ih1 ih2 =>
    intro L e
    obtain ⟨L2, p2, q2⟩ := ih2 e
    obtain ⟨L1, p1, q1⟩ := ih1 q2
    exact ⟨L1, p1.trans p2, q1⟩
theorem leaf_reads {h : Heap} : ∀ {k : List Key} {vs : List Value}, ItemsAre (mixKind P w) k vs → ReadsAll h vs (k.map kD) []
  | _, _, .nil => .nil
  | _, _, .cons e r => ReadsAll.cons (as := []) (bs := []) (keyIs_reads e) (leaf_reads r)
theorem vals_items : ∀ {k : List Key} {us : List Value}, Vals (k.map kV) us → ItemsAre (mixKind P w) k us
  | [], _, h => by cases h; exact .nil
  | j :: k, _, h => by
    cases h with
    | cons r t => exact .cons (rel_keyIs r) (vals_items t)
theorem each_ref {h : Heap} : ∀ (L : List MU), (∀ x ∈ L, AtU P w h x) → PySem.W.EachIs (fun (v : Value) (m : MU) => v = .ref m.1 ∧ AtU P w h m) (L.map fun m => Value.ref m.1) L
  | [], _ => .nil
  | m :: L, all => .cons ⟨rfl, all m List.mem_cons_self⟩ (each_ref L fun x hx => all x (List.mem_cons_of_mem _ hx))
theorem collU {Q : List Value → Shared → Prop} (hh : A.handled = none) (R : SetU P w s.heap a L) (all : ∀ x ∈ L, AtU P w s.heap x)
    (q : ∀ s' vs L', (∀ b o, s.heap.get? b = some o → s'.heap.get? b = some o) → s.heap.objs.size ≤ s'.heap.objs.size → s'.gens = s.gens → s'.os = s.os → L'.Perm L → PySem.W.EachIs (fun v (m : MU) => v = .ref m.1 ∧ AtU P w s.heap m) vs L' → Q vs s') :
    wpAny (model P w) A (collect (.ref a)) Q E s := by
  obtain ⟨o, es, ep, t, eo, ox, d, T⟩ := R
  have num := T.num
  have few := T.few
  refine collect_set (A := A) hh ⟨o, eo, ox.1, d⟩ T.fit (Nat.lt_of_le_of_lt (show es.size ≤ 64 by omega) (by decide)) T.tab.ris T.ld fun s1 vs k1 hz g1 o1 vp => ?_
  obtain ⟨L', pm, rfl⟩ := back_map (fun m : MU => Value.ref m.1) vp (L := L) (by rw [T.row, List.map_map]; rfl)
  exact q s1 _ L' k1 hz g1 o1 pm (each_ref L' fun x hx => all x (pm.mem_iff.mp hx))
theorem freshU {h : Heap} (e : h.get? a = some { cls := .type "set", dict := none, data := .set #[] 0 (.fresh 0 0 (!w.params.followText "set-order")) }) : SetU P w h a [] := by
  refine ⟨_, #[], 0, _, e, ⟨rfl, rfl, rfl⟩, rfl, rfl, ⟨List.Pairwise.nil, rfl, rfl, .inl rfl, fun x hx => (nomatch hx), fun i h j hi => (by simp at hi)⟩, List.nodup_nil, ?_, by show 0 * 5 < 7 * 3; decide, by show 0 < 64; decide⟩
  show _ ∨ (!w.params.followText "set-order") = true
  cases w.params.followText "set-order" with
  | false => exact .inr rfl
  | true => exact .inl rfl
end
def kitU (P : Program) (w : World) : Kit P w where
  M := MU
  dat := datU
  val := fun m => .ref m.1
  Is := fun h m u => u = .ref m.1 ∧ AtU P w h m
  lim := 64
  hash := fun m => hU P w m.2
  St := SetU P w
  IsH := fun K H m => SqT K H m.1 (m.2.map kV)
  limOk := by rw [sizeLine_eq]; decide
  rel := fun h => h.1
  keep := fun h k => ⟨h.1, h.2.kept k⟩
  reads := fun h => by
    obtain ⟨rfl, o, vs, n, e, c, d, it⟩ := h
    exact .tuple e c d (leaf_reads it)
  there := fun ⟨o, _, _, _, h, _⟩ => ⟨o, h⟩
  stay := fun ⟨o, es, ep, t, g, r⟩ k => ⟨o, es, ep, t, k o g, r⟩
  fresh := freshU
  typ := fun ⟨o, _, _, _, g, x, _⟩ => ⟨o, g, x.1⟩
  hashing := fun {A E s Q m u} hu h q => by
    obtain ⟨rfl, i⟩ := h
    exact wpAny_pyHash_tuple (by omega) i (q _ (Nat.le_add_right _ _))
  add := fun {A E s Q a L m u} hu R all h room q => by
    obtain ⟨rfl, i⟩ := h
    exact addU R (fun x hx => let ⟨_, _, z⟩ := all x hx; z) i (by omega) room q
  coll := fun {A E s Q a L} hh R _ all q => collU hh R (fun x hx => let ⟨_, _, z⟩ := all x hx; z) q
  isOf := fun {X pins σ H s m u} ep ew I h r => by
    subst ep ew
    obtain ⟨vs, v, ⟨o, e, c, n, d⟩, _⟩ := I.tuple h
    exact ⟨r, o, vs.toArray, n, e, c, d, by simpa using vals_items v⟩
  keepH := fun h s => h.elim (fun e => .inl (e.elim (fun z => .inl (s _ _ z)) fun ⟨u, z⟩ => .inr ⟨u, s _ _ z⟩)) .inr
def memU : Mem := ⟨MU, datU, fun m => .ref m.1, fun K H m => SqT K H m.1 (m.2.map kV), 64⟩
theorem memU_eq (P : Program) (w : World) : (kitU P w).mem = memU := rfl
end SetX
end L2

/-! A run that is known to go through whatever its sleeping generators would do leaves each of them as it sleeps: they may be replaced by ones that no run can wake, and back. -/
namespace Calm
open PySem
open Sem (wp)

def retF : Frame → Bool
  | .ret .. => true
  | _ => false
def noG (fs : List Frame) : Bool := fs.all retF
theorem noG_split : ∀ {fs : List Frame}, noG fs = true → splitAtGen fs = none
  | [], _ => rfl
  | .ret k h g l c p kp :: fs, h1 => by
    have h2 : noG fs = true := by
      simp only [noG, List.all_cons, Bool.and_eq_true] at h1
      exact h1.2
    show (splitAtGen fs).map _ = none
    rw [noG_split h2]; rfl
  | .gen .. :: fs, h1 => by simp [noG, retF] at h1
/-- it sleeps -/
def asleep : GenState → Bool
  | .suspended .. => true
  | _ => false
/-- a sleeper that no run can wake -/
def dull : GenState → GenState
  | .suspended _ l c p fs cl => .suspended (fun _ => .unsupported "") l c p fs cl
  | x => x
theorem dull_seen (x : GenState) : (dull x).seen = x.seen := by cases x <;> rfl
theorem dull_bare (x : GenState) : (dull x).bare = x.bare := by cases x <;> rfl
def plainG : GenState → Bool
  | .suspended _ _ _ _ fs _ => noG fs
  | _ => true
theorem no_run {M : Model} {Γ : Ctx} {p : Pos} {t : Sem PySem.Fin} {fs : List Frame} {s s' : Shared} {e : End} (h : Runs M Γ p t fs s e s') : ∀ w, t = .unsupported w → False := by
  induction h <;> intro w hw <;> first | (cases hw; done) | skip
  all_goals first
    | (rename_i ih _; exact ih w hw)
    | (rename_i ih; exact ih w hw)
    | skip
  all_goals (rename_i ih _ _; exact ih w hw)

/-- S: who sleeps -/
def un (S : Nat → Option GenState) (a : Shared) : Shared := { a with gens := a.gens.mapIdx fun i x => (S i).getD x }
structure Dulled (S : Nat → Option GenState) (a : Shared) : Prop where
  at_ : ∀ i x, S i = some x → asleep x = true ∧ a.gens[i]? = some (dull x)
  else_ : ∀ i x, S i = none → a.gens[i]? = some x → plainG x = true
section
variable {S : Nat → Option GenState} {a : Shared}
theorem un_size : (un S a).gens.size = a.gens.size := by simp [un]
theorem un_at {i : Nat} : (un S a).gens[i]? = (a.gens[i]?).map fun x => (S i).getD x := by
  show (a.gens.mapIdx _)[i]? = _
  rw [Array.getElem?_mapIdx]
theorem un_none {i : Nat} (h : S i = none) : (un S a).gens[i]? = a.gens[i]? := by
  rw [un_at, h]
  cases a.gens[i]? <;> rfl
theorem Dulled.woke (d : Dulled S a) {i : Nat} {x : GenState} (h : S i = some x) : (un S a).gens[i]? = some x := by
  rw [un_at, (d.at_ i x h).2, h]; rfl
theorem setGen_ne {s : Shared} {g i : Nat} {x : GenState} (h : i ≠ g) : (s.setGen g x).gens[i]? = s.gens[i]? := by
  show (s.gens.setIfInBounds g x)[i]? = _
  rw [Array.getElem?_setIfInBounds_ne (Ne.symm h)]
theorem setGen_eq {s : Shared} {g : Nat} {x : GenState} : (s.setGen g x).gens[g]? = if g < s.gens.size then some x else none := by
  show (s.gens.setIfInBounds g x)[g]? = _
  rw [Array.getElem?_setIfInBounds_self]
theorem gens_ext {s s' : Shared} (h1 : s.heap = s'.heap) (h2 : s.drawn = s'.drawn) (h3 : s.toks = s'.toks) (h4 : s.os = s'.os) (h : ∀ i : Nat, s.gens[i]? = s'.gens[i]?) : s = s' := by
  obtain ⟨_, g, _, _, _⟩ := s
  obtain ⟨_, g', _, _, _⟩ := s'
  cases h1; cases h2; cases h3; cases h4
  have : g = g' := Array.ext_getElem? h
  rw [this]
theorem un_set {g : Nat} {x : GenState} (h : S g = none) : un S (a.setGen g x) = (un S a).setGen g x := by
  refine gens_ext rfl rfl rfl rfl fun i => ?_
  by_cases hi : i = g
  · subst hi
    rw [un_none h, setGen_eq, setGen_eq, un_size]
  · rw [setGen_ne hi, un_at, setGen_ne hi, un_at]
theorem Dulled.lt (d : Dulled S a) {i : Nat} {x : GenState} (h : S i = some x) : i < a.gens.size := (Array.getElem?_eq_some_iff.mp (d.at_ i x h).2).1
theorem Dulled.top (d : Dulled S a) : S a.gens.size = none := by
  cases e : S a.gens.size with
  | none => rfl
  | some x => exact absurd (d.lt e) (Nat.lt_irrefl _)
theorem un_push (d : Dulled S a) {x : GenState} : un S { a with gens := a.gens.push x } = { un S a with gens := (un S a).gens.push x } := by
  refine gens_ext rfl rfl rfl rfl fun i => ?_
  rw [un_at]
  show Option.map _ (a.gens.push x)[i]? = ((un S a).gens.push x)[i]?
  by_cases hi : i = a.gens.size
  · subst hi
    rw [Array.getElem?_push_size, show a.gens.size = (un S a).gens.size from un_size.symm, Array.getElem?_push_size, un_size, d.top]
    rfl
  · rw [Array.getElem?_push, if_neg hi, Array.getElem?_push, if_neg (by rw [un_size]; exact hi), un_at]
theorem Dulled.set (d : Dulled S a) {g : Nat} {x : GenState} (h : S g = none) (hx : plainG x = true) : Dulled S (a.setGen g x) := by
  refine ⟨fun i y hy => ?_, fun i y hy e => ?_⟩
  · have hi : i ≠ g := fun e => by subst e; rw [h] at hy; cases hy
    rw [setGen_ne hi]
    exact d.at_ i y hy
  · by_cases hi : i = g
    · subst hi
      rw [setGen_eq] at e
      split at e
      · cases e; exact hx
      · cases e
    · rw [setGen_ne hi] at e
      exact d.else_ i y hy e
theorem Dulled.push (d : Dulled S a) {x : GenState} (hx : plainG x = true) : Dulled S { a with gens := a.gens.push x } := by
  refine ⟨fun i y hy => ⟨(d.at_ i y hy).1, ?_⟩, fun i y hy e => ?_⟩
  · show (a.gens.push x)[i]? = _
    rw [Array.getElem?_push, if_neg (Nat.ne_of_lt (d.lt hy))]
    exact (d.at_ i y hy).2
  · have e : (a.gens.push x)[i]? = some y := e
    rw [Array.getElem?_push] at e
    split at e
    · cases e; exact hx
    · exact d.else_ i y hy e
theorem Dulled.same {b : Shared} (d : Dulled S a) (e : b.gens = a.gens) : Dulled S b := ⟨fun i y hy => by rw [e]; exact d.at_ i y hy, fun i y hy q => d.else_ i y hy (by rw [← e]; exact q)⟩
/-- who is awake is not among them -/
theorem Dulled.awake (d : Dulled S a) {g : Nat} {x : GenState} (h : a.gens[g]? = some x) (hx : asleep x = false) : S g = none := by
  cases e : S g with
  | none => rfl
  | some y =>
    obtain ⟨q1, q2⟩ := d.at_ g y e
    rw [h] at q2
    cases q2
    cases y <;> simp_all [asleep, dull]
end
theorem Dulled.cases {S : Nat → Option GenState} {a : Shared} (d : Dulled S a) {g : Nat} {y : GenState} (h : a.gens[g]? = some y) : (S g = none ∧ plainG y = true) ∨ ∃ x, S g = some x ∧ asleep x = true ∧ y = dull x := by
  cases e : S g with
  | none => exact .inl ⟨rfl, d.else_ g y e h⟩
  | some x =>
    obtain ⟨q1, q2⟩ := d.at_ g x e
    rw [h] at q2
    cases q2
    exact .inr ⟨x, rfl, q1, rfl⟩
def endG : End → Bool
  | .susp _ _ _ _ _ _ fs => noG fs
  | _ => true
theorem endG_state (e : End) : plainG e.genState = endG e := by cases e <;> rfl
theorem noG_tail {F : Frame} {fs : List Frame} (h : noG (F :: fs) = true) : retF F = true ∧ noG fs = true := by
  simpa [noG, List.all_cons, Bool.and_eq_true] using h
theorem noG_app {fs gs : List Frame} (h : noG fs = true) (h' : noG gs = true) : noG (fs ++ gs) = true := by
  unfold noG at *
  rw [List.all_append, h, h']; rfl

theorem runs_un {S : Nat → Option GenState} {M : Model} {Γ : Ctx} {p : Pos} {t : Sem PySem.Fin} {fs : List Frame} {a b : Shared} {e : End} (h : Runs M Γ p t fs a e b) :
    noG fs = true → Dulled S a → Dulled S b ∧ endG e = true ∧ Runs M Γ p t fs (un S a) e (un S b) := by
  induction h with
  | done => exact fun _ d => ⟨d, rfl, .done⟩
  | raise => exact fun _ d => ⟨d, rfl, .raise⟩
  | again hq _ ih => intro hf d; obtain ⟨d1, g1, r1⟩ := ih hf d; exact ⟨d1, g1, .again hq r1⟩
  | rule _ ih => intro hf d; obtain ⟨d1, g1, r1⟩ := ih hf d; exact ⟨d1, g1, .rule r1⟩
  | «at» _ ih => intro hf d; obtain ⟨d1, g1, r1⟩ := ih hf d; exact ⟨d1, g1, .at r1⟩
  | load ho _ ih => intro hf d; obtain ⟨d1, g1, r1⟩ := ih hf d; exact ⟨d1, g1, .load ho r1⟩
  | update ho _ ih => intro hf d; obtain ⟨d1, g1, r1⟩ := ih hf (d.same rfl); exact ⟨d1, g1, .update ho r1⟩
  | loadIfAlive _ ih => intro hf d; obtain ⟨d1, g1, r1⟩ := ih hf d; exact ⟨d1, g1, .loadIfAlive r1⟩
  | point _ ih => intro hf d; obtain ⟨d1, g1, r1⟩ := ih hf d; exact ⟨d1, g1, .point r1⟩
  | alloc _ ih => intro hf d; obtain ⟨d1, g1, r1⟩ := ih hf (d.same rfl); exact ⟨d1, g1, .alloc r1⟩
  | fresh _ ih => intro hf d; obtain ⟨d1, g1, r1⟩ := ih hf (d.same rfl); exact ⟨d1, g1, .fresh r1⟩
  | ask _ ih => intro hf d; obtain ⟨d1, g1, r1⟩ := ih hf d; exact ⟨d1, g1, .ask r1⟩
  | choose hn _ ih => intro hf d; obtain ⟨d1, g1, r1⟩ := ih hf (d.same rfl); exact ⟨d1, g1, .choose hn r1⟩
  | os _ ih => intro hf d; obtain ⟨d1, g1, r1⟩ := ih hf (d.same rfl); exact ⟨d1, g1, .os r1⟩
  | handled _ ih => intro hf d; obtain ⟨d1, g1, r1⟩ := ih hf d; exact ⟨d1, g1, .handled r1⟩
  | genState hst _ ih =>
    intro hf d
    obtain ⟨d1, g1, r1⟩ := ih hf d
    refine ⟨d1, g1, ?_⟩
    rcases d.cases hst with ⟨n, _⟩ | ⟨x, e, _, rfl⟩
    · exact .genState (by rw [un_none n]; exact hst) r1
    · refine .genState (d.woke e) ?_
      rw [dull_seen] at r1
      exact r1
  | stack _ ih => intro hf d; obtain ⟨d1, g1, r1⟩ := ih hf d; exact ⟨d1, g1, .stack r1⟩
  | thread _ ih => intro hf d; obtain ⟨d1, g1, r1⟩ := ih hf d; exact ⟨d1, g1, .thread r1⟩
  | newGen _ ih =>
    intro hf d
    obtain ⟨d1, g1, r1⟩ := ih hf (d.push rfl)
    refine ⟨d1, g1, .newGen ?_⟩
    rw [un_push d] at r1
    rw [un_size]
    exact r1
  | call _ _ ih1 ih2 =>
    intro hf d
    obtain ⟨d1, _, r1⟩ := ih1 rfl d
    obtain ⟨d2, g2, r2⟩ := ih2 hf d1
    exact ⟨d2, g2, .call r1 r2⟩
  | callSusp _ ih =>
    intro hf d
    obtain ⟨d1, g1, r1⟩ := ih rfl d
    exact ⟨d1, noG_app g1 rfl, .callSusp r1⟩
  | yield => exact fun _ d => ⟨d, rfl, .yield⟩
  | resumeFresh hg _ hq _ ih1 ih2 =>
    intro hf d
    have n := d.awake hg rfl
    obtain ⟨d1, g1, r1⟩ := ih1 rfl (d.set n rfl)
    obtain ⟨d2, g2, r2⟩ := ih2 hf (d1.set n (by rw [endG_state]; exact g1))
    rw [un_set n] at r1 r2
    exact ⟨d2, g2, .resumeFresh (by rw [un_none n]; exact hg) r1 hq r2⟩
  | resumeSuspended hg hr hq _ ih1 ih2 =>
    intro hf d
    rcases d.cases hg with ⟨n, pg⟩ | ⟨x, e, q1, q2⟩
    · obtain ⟨d1, g1, r1⟩ := ih1 pg (d.set n rfl)
      obtain ⟨d2, g2, r2⟩ := ih2 hf (d1.set n (by rw [endG_state]; exact g1))
      rw [un_set n] at r1 r2
      exact ⟨d2, g2, .resumeSuspended (by rw [un_none n]; exact hg) r1 hq r2⟩
    · cases x with
      | suspended k l c p fs cl =>
        simp only [dull, GenState.suspended.injEq] at q2
        rw [q2.1] at hr
        exact (no_run hr _ rfl).elim
      | _ => cases q1
  | resumeJustStarted hg hv _ ih =>
    intro hf d
    obtain ⟨d1, g1, r1⟩ := ih hf d
    exact ⟨d1, g1, .resumeJustStarted (by rw [un_none (d.awake hg rfl)]; exact hg) hv r1⟩
  | resumeThrowFresh hg _ ih =>
    intro hf d
    have n := d.awake hg rfl
    obtain ⟨d1, g1, r1⟩ := ih hf (d.set n rfl)
    refine ⟨d1, g1, .resumeThrowFresh (by rw [un_none n]; exact hg) ?_⟩
    rw [un_set n] at r1; exact r1
  | resumeRunning hg _ ih =>
    intro hf d
    obtain ⟨d1, g1, r1⟩ := ih hf d
    exact ⟨d1, g1, .resumeRunning (by rw [un_none (d.awake hg rfl)]; exact hg) r1⟩
  | resumeFinished hg _ ih =>
    intro hf d
    obtain ⟨d1, g1, r1⟩ := ih hf d
    exact ⟨d1, g1, .resumeFinished (by rw [un_none (d.awake hg rfl)]; exact hg) r1⟩
  | segRet _ _ ih1 ih2 =>
    intro hf d
    obtain ⟨d1, _, r1⟩ := ih1 rfl d
    obtain ⟨d2, g2, r2⟩ := ih2 (noG_tail hf).2 d1
    exact ⟨d2, g2, .segRet r1 r2⟩
  | segGen _ _ ih1 ih2 => intro hf d; exact absurd (noG_tail hf).1 Bool.false_ne_true
  | segSuspOut hs _ ih =>
    intro hf d
    obtain ⟨d1, g1, r1⟩ := ih rfl d
    exact ⟨d1, noG_app g1 hf, .segSuspOut hs r1⟩
  | segSuspGen hs _ hq _ ih1 ih2 =>
    intro hf d
    rw [noG_split hf] at hs
    cases hs

theorem wakes_un {S : Nat → Option GenState} {M : Model} {Γ : Ctx} {p : Pos} {g : Nat} {r : Resume} {a b : Shared} {res : GenResult} (h : Wakes M Γ p g r a res b) (d : Dulled S a) : Dulled S b ∧ Wakes M Γ p g r (un S a) res (un S b) := by
  unfold Wakes at h
  split at h
  · exact h.elim
  · rename_i c hg
    have n := d.awake hg rfl
    have hg' : (un S a).gens[g]? = some (.fresh c) := by rw [un_none n]; exact hg
    unfold Wakes
    rw [hg']
    split at h
    · obtain ⟨e₁, s₁, hr, hq, he, rfl⟩ := h
      obtain ⟨d1, g1, r1⟩ := runs_un hr rfl (d.set n rfl)
      rw [un_set n] at r1
      exact ⟨d1.set n (by rw [endG_state]; exact g1), e₁, un S s₁, r1, hq, he, un_set n⟩
    · obtain ⟨rfl, rfl⟩ := h
      exact ⟨d, rfl, rfl⟩
    · obtain ⟨rfl, rfl⟩ := h
      exact ⟨d.set n rfl, rfl, un_set n⟩
  · rename_i k₀ l c₀ p₀ fs cl hg
    obtain ⟨e₁, s₁, hr, hq, he, rfl⟩ := h
    cases e : S g with
    | none =>
      obtain ⟨d1, g1, r1⟩ := runs_un hr (d.else_ g _ e hg) (d.set e rfl)
      rw [un_set e] at r1
      refine ⟨d1.set e (by rw [endG_state]; exact g1), ?_⟩
      unfold Wakes
      rw [un_none e, hg]
      exact ⟨e₁, un S s₁, r1, hq, he, un_set e⟩
    | some x =>
      obtain ⟨q1, q2⟩ := d.at_ g x e
      rw [hg] at q2
      cases x with
      | suspended k l c p fs cl =>
        simp only [dull, Option.some.injEq, GenState.suspended.injEq] at q2
        rw [q2.1] at hr
        exact (no_run hr _ rfl).elim
      | _ => cases q1
  · rename_i hg
    obtain ⟨rfl, rfl⟩ := h
    refine ⟨d, ?_⟩
    unfold Wakes
    rw [un_none (d.awake hg rfl), hg]
    exact ⟨rfl, rfl⟩
  · rename_i hg
    obtain ⟨rfl, rfl⟩ := h
    refine ⟨d, ?_⟩
    unfold Wakes
    rw [un_none (d.awake hg rfl), hg]
    exact ⟨rfl, rfl⟩

theorem wp_un {S : Nat → Option GenState} {α : Type} (M : Model) (Γ : Ctx) (t : Sem α) : ∀ (Q : α → Pos → Shared → Prop) (E : Value → Pos → Shared → Prop) (p : Pos) (a : Shared), Dulled S a → wp M Γ t Q E p a →
    wp M Γ t (fun x p' s' => ∃ b, Dulled S b ∧ s' = un S b ∧ Q x p' b) (fun x p' s' => ∃ b, Dulled S b ∧ s' = un S b ∧ E x p' b) p (un S a) := by
  induction t with
  | pure x => intro Q E p a d h; exact ⟨a, d, rfl, h⟩
  | raise x => intro Q E p a d h; exact ⟨a, d, rfl, h⟩
  | unsupported _ => intro Q E p a _ h; exact h
  | finish _ => intro Q E p a _ h; exact h
  | rule _ k ih => intro Q E p a d h; exact ih () Q E p a d h
  | «at» p' k ih => intro Q E p a d h; exact ih () Q E p' a d h
  | load x _ k ih => intro Q E p a d h; obtain ⟨o, ho, h⟩ := h; exact ⟨o, ho, ih o Q E p a d h⟩
  | update x _ f k ih => intro Q E p a d h; exact ⟨h.1, by refine ih () Q E p _ ?_ h.2; exact d.same rfl⟩
  | loadIfAlive x k ih => intro Q E p a d h; exact ih _ Q E p a d h
  | point _ k ih => intro Q E p a d h; exact ih () Q E p a d h
  | register _ _ => intro Q E p a _ h; exact h
  | alloc o k ih => intro Q E p a d h; refine ih _ Q E p { a with heap := a.heap.push o } ?_ h; exact d.same rfl
  | fresh k ih => intro Q E p a d h; refine ih _ Q E p { a with toks := a.toks + 1 } ?_ h; exact d.same rfl
  | ask k ih => intro Q E p a d h; exact ih _ Q E p a d h
  | choose src m k ih => intro Q E p a d h; exact ⟨h.1, by refine ih _ Q E p { a with drawn := a.drawn.bump src } ?_ h.2; exact d.same rfl⟩
  | os q _ k ih => intro Q E p a d h; refine ih _ Q E p { a with os := (Os.step a.os q).1 } ?_ h; exact d.same rfl
  | call c hd _ _ k ih =>
    intro Q E p a d h
    obtain ⟨r, s', hr, h⟩ := h
    obtain ⟨d1, _, r1⟩ := runs_un hr rfl d
    exact ⟨r, un S s', r1, ih r Q E p s' d1 h⟩
  | handled own k ih => intro Q E p a d h; exact ih _ Q E p a d h
  | genState g k ih =>
    intro Q E p a d h
    obtain ⟨st, hs, h⟩ := h
    cases e : S g with
    | none => exact ⟨st, by rw [un_none e]; exact hs, ih _ Q E p a d h⟩
    | some x =>
      have q := (d.at_ g x e).2
      rw [hs] at q
      cases q
      refine ⟨x, d.woke e, ?_⟩
      rw [dull_seen] at h
      exact ih _ Q E p a d h
  | newGen c k ih =>
    intro Q E p a d h
    have z := ih _ Q E p _ (d.push rfl) h
    rw [un_push d] at z
    show wp M Γ (k (un S a).gens.size) _ _ p _
    rw [un_size]
    exact z
  | resume g r _ k ih =>
    intro Q E p a d h
    obtain ⟨res, s', hw, h⟩ := h
    obtain ⟨d1, w1⟩ := wakes_un hw d
    exact ⟨res, un S s', w1, ih res Q E p s' d1 h⟩
  | yield _ _ _ _ => intro Q E p a _ h; exact h
  | stack k ih => intro Q E p a d h; exact ih _ Q E p a d h
  | fork _ _ => intro Q E p a _ h; exact h
  | thread k ih => intro Q E p a d h; exact ih _ Q E p a d h
  | await _ _ _ _ _ => intro Q E p a _ h; exact h

/-- all sleepers of a state -/
def slp (s : Shared) : Nat → Option GenState := fun i => match s.gens[i]? with
  | some x => if asleep x then some x else none
  | none => none
def dulled (s : Shared) : Shared := { s with gens := s.gens.map dull }
theorem slp_some {s : Shared} {i : Nat} {x : GenState} (h : slp s i = some x) : asleep x = true ∧ s.gens[i]? = some x := by
  unfold slp at h
  split at h
  · split at h
    · cases h; exact ⟨by assumption, by assumption⟩
    · cases h
  · cases h
theorem slp_at {s : Shared} {i : Nat} {x : GenState} (h : s.gens[i]? = some x) (hx : asleep x = true) : slp s i = some x := by
  unfold slp
  rw [h]
  simp [hx]
theorem dulled_at {s : Shared} {i : Nat} : (dulled s).gens[i]? = (s.gens[i]?).map dull := by
  show (s.gens.map dull)[i]? = _
  rw [Array.getElem?_map]
theorem dulled_ok (s : Shared) : Dulled (slp s) (dulled s) := by
  refine ⟨fun i x h => ?_, fun i x h e => ?_⟩
  · obtain ⟨h1, h2⟩ := slp_some h
    exact ⟨h1, by rw [dulled_at, h2]; rfl⟩
  · rw [dulled_at] at e
    cases q : s.gens[i]? with
    | none => rw [q] at e; cases e
    | some y =>
      rw [q] at e
      cases e
      cases y with
      | suspended => rw [slp_at q rfl] at h; cases h
      | _ => rfl
theorem un_dulled (s : Shared) : un (slp s) (dulled s) = s := by
  refine gens_ext rfl rfl rfl rfl fun i => ?_
  rw [un_at, dulled_at]
  cases q : s.gens[i]? with
  | none => rfl
  | some y =>
    show some ((slp s i).getD (dull y)) = some y
    cases y with
    | suspended => rw [slp_at q rfl]; rfl
    | _ =>
      have : slp s i = none := by unfold slp; rw [q]; rfl
      rw [this]; rfl
/-- what a run does that would go through with its sleepers dulled -/
theorem wpAny_calm {α : Type} {M : Model} {A : Around} {s : Shared} {t : Sem α} {Q Q' : α → Shared → Prop} {E E' : Value → Shared → Prop}
    (h : wpAny M A t Q' E' (dulled s))
    (hQ : ∀ x b G, Q' x b → (∀ (i : Nat) y, s.gens[i]? = some y → asleep y = true → G[i]? = some y) → (∀ (i : Nat) y, G[i]? = some y → (s.gens[i]? = some y) ∨ b.gens[i]? = some y) → Q x { b with gens := G })
    (hE : ∀ x b, ¬ E' x b) : wpAny M A t Q E s := by
  have z : wpAny M A t (fun x s' => ∃ b, Dulled (slp s) b ∧ s' = un (slp s) b ∧ Q' x b) (fun x s' => ∃ b, Dulled (slp s) b ∧ s' = un (slp s) b ∧ E' x b) s := by
    intro Γ p hΓ
    have q := wp_un M Γ t _ _ p (dulled s) (dulled_ok s) (h Γ p hΓ)
    rw [un_dulled] at q
    exact q
  refine wpAny_mono z (fun x s' hx => ?_) fun x s' hx => ?_
  · obtain ⟨b, d, rfl, q⟩ := hx
    refine hQ x b _ q (fun i y hy ha => d.woke (slp_at hy ha)) fun i y hy => ?_
    have hy : (un (slp s) b).gens[i]? = some y := hy
    cases e : slp s i with
    | none => rw [un_none e] at hy; exact .inr hy
    | some y' =>
      rw [d.woke e] at hy
      cases hy
      exact .inl (slp_some e).2
  · obtain ⟨b, _, _, q⟩ := hx
    exact (hE x b q).elim
end Calm

/-! A generator that is walked in turns: its context is based anew whenever it is woken. -/
namespace L2
open PySem PySem.Spec PyProof.Rows GenW

/-- the heap's first n objects -/
def cutH (n : Nat) (h : Heap) : Heap := { h with objs := h.objs.extract 0 n }
def cutSh (n : Nat) (s : Shared) : Shared := { s with heap := cutH n s.heap }
theorem cutH_size {n : Nat} {h : Heap} (hn : n ≤ h.objs.size) : (cutH n h).objs.size = n := by
  show (h.objs.extract 0 n).size = n
  rw [Array.size_extract]; omega
theorem cutH_at {n : Nat} {h : Heap} {b : Addr} (hb : b < n) : (cutH n h).get? b = h.get? b := by
  have e : (h.objs.extract 0 n)[b]? = h.objs[b]? := by
    rw [Array.getElem?_extract, Nat.zero_add, Nat.sub_zero]
    split
    · rfl
    · rename_i z
      rw [Array.getElem?_eq_none (Nat.le_of_not_lt fun q => z (Nat.lt_min.mpr ⟨hb, q⟩))]
  show (match (h.objs.extract 0 n)[b]? with | some ⟨_, _, .freed, _⟩ => none | o => o) = _
  rw [e]; rfl
theorem cutH_no {n : Nat} {h : Heap} {b : Addr} {o : Obj} (e : (cutH n h).get? b = some o) : b < n ∧ h.get? b = some o := by
  have hb : b < n := by
    refine Decidable.byContradiction fun z => ?_
    have e1 := Heap.lt_size e
    have e2 : (h.objs.extract 0 n).size ≤ n := by rw [Array.size_extract]; omega
    exact z (Nat.lt_of_lt_of_le e1 e2)
  exact ⟨hb, by rw [cutH_at hb] at e; exact e⟩

/-- who walks: X its context, pins what it wants kept, n the size of the heap at the generator's call (there the generator's frame stands), go at a: the generator's object -/
structure Host where
  X : Cx
  pins : List (Addr × Obj)
  n : Nat
  N : List Str
  qual : Str
  scope : Scope
  f : Addr
  cd : Value
  A : Around
  a : Addr
  go : Obj
/-- the walker's own frame, where it is younger than the call -/
def Host.own (B : Host) : List Addr := if B.X.env.locals < B.n then [] else [B.X.env.locals]
abbrev Host.env (B : Host) : Env := envOfC B.qual B.scope B.n B.f B.cd
abbrev Host.F (B : Host) (s : Shared) (H : Hp) : Cx := gcxOf B.X.prog B.X.w B.X.K B.X.mg B.X.base B.N B.qual B.scope B.f B.cd B.A B.X.stack s H E0 [(B.a, B.go)]
theorem Host.F_env (B : Host) {s : Shared} {H : Hp} (h : s.heap.objs.size = B.n) : (B.F s H).env = B.env := by
  show envOfC B.qual B.scope s.heap.objs.size B.f B.cd = _
  rw [h]
theorem Host.F_A (B : Host) {s : Shared} {H : Hp} (h : s.heap.objs.size = B.n) : (B.F s H).A = B.A.deeper B.env := by
  show B.A.deeper (envOfC B.qual B.scope s.heap.objs.size B.f B.cd) = _
  rw [h]
structure HostOk (B : Host) : Prop where
  s0 : B.X.s_0.heap.objs.size ≤ B.n
  cells : ∀ x c, B.X.env.cells.lookup x = some c → c < B.n
  pin : ∀ p ∈ B.X.pn ++ B.pins, p.1 < B.n
  frs : ∀ b ∈ frs B.X.stack, b < B.n
  loc : B.X.env.locals ≠ B.n ∧ B.X.env.locals ≠ B.a
  an : B.n < B.a
  goc : ∀ v, B.go.data ≠ .cell v
  kind : B.scope.kind = .function
  nocell : ∀ y ∈ B.scope.names, y.2 ≠ .cell ∧ y.2 ≠ .free
  frames : B.A.frames = some B.X.stack
  hd : B.A.handled = none
/-- what the generator's frame object tells -/
def LocOk (B : Host) (Lo : Obj) (σ : St) : Prop :=
  σ.length = B.N.length ∧ (∀ v, Lo.data ≠ .cell v) ∧ ∃ m, (∀ h : Heap, h.get? B.n = some Lo → h.Ns B.n m) ∧ ∀ (i : Nat) (x : Str) (v : V), B.N[i]? = some x → σ[i]? = some (some v) → Vis B.scope x → ∃ u, RelV v u ∧ B.env.kindOf x = some .local ∧ m x = some u
/-- what the walker keeps for the sleeping generator -/
abbrev Host.gp (B : Host) (Lo : Obj) (ip : List (Addr × Obj)) : List (Addr × Obj) := (B.a, B.go) :: (B.n, Lo) :: ip
/-- running: the walker's own state is c -/
def Host.Run (B : Host) (c : St) (ip : List (Addr × Obj)) (σ : St) (H : Hp) (s : Shared) : Prop :=
  (∀ p ∈ ip, p.1 ∉ B.own ∧ B.n < p.1) ∧ ∃ sr Hr, Inv B.X B.pins c Hr sr ∧ B.n ≤ sr.heap.objs.size ∧ sr.os = s.os ∧ Inv (B.F (cutSh B.n sr) Hr) (pinsAt B.own sr.heap ++ ip) σ H s
section
variable {B : Host}
theorem cells_nil {names : List (Str × NameKind)} (h : ∀ y ∈ names, y.2 ≠ .cell ∧ y.2 ≠ .free) : ∀ n : Nat, cellsFrom n names [] = [] := by
  induction names with
  | nil => intro n; rfl
  | cons y ys ih =>
    intro n
    have h1 := (h y List.mem_cons_self).1
    have h2 := ih fun z hz => h z (List.mem_cons_of_mem _ hz)
    obtain ⟨x, k⟩ := y
    unfold cellsFrom
    cases k <;> first | exact absurd rfl h1 | exact h2 n
theorem own_mem {b : Addr} (h : b ∈ B.own) : b = B.X.env.locals ∧ B.n ≤ b := by
  unfold Host.own at h
  split at h
  · cases h
  · rename_i hn
    have e := List.mem_singleton.mp h
    exact ⟨e, by rw [e]; exact Nat.le_of_not_lt hn⟩
theorem env_cells (h : HostOk B) : B.env.cells = [] := cells_nil h.nocell _
theorem names_kind {names : List (Str × NameKind)} (h : ∀ y ∈ names, y.2 ≠ .cell ∧ y.2 ≠ .free) (x : Str) : names.lookup x ≠ some .cell ∧ names.lookup x ≠ some .free :=
  ⟨fun e => (h _ (PySem.mem_of_lookup e)).1 rfl, fun e => (h _ (PySem.mem_of_lookup e)).2 rfl⟩
theorem own_lt (h : HostOk B) {b : Addr} (hb : b ∈ B.own) : B.n < b ∧ b ≠ B.a := by
  obtain ⟨e, hn⟩ := own_mem hb
  rw [e] at hn ⊢
  exact ⟨Nat.lt_of_le_of_ne hn (Ne.symm h.loc.1), h.loc.2⟩
theorem own_no {b : Addr} (hb : b ∉ B.own) (hn : B.n ≤ b) : b ≠ B.X.env.locals := by
  rintro rfl
  unfold Host.own at hb
  rw [if_neg (Nat.not_lt.mpr hn)] at hb
  exact hb (List.mem_singleton.mpr rfl)

/-- the walker wakes the generator -/
theorem Host.wake {c : St} {ip : List (Addr × Obj)} {σ : St} {H : Hp} {s : Shared} {Lo : Obj} (h : HostOk B) (I : Inv B.X (B.pins ++ B.gp Lo ip) c H s) (hl : LocOk B Lo σ) (hi : ∀ p ∈ ip, p.1 ∉ B.own ∧ B.n < p.1) : B.Run c ip σ H s := by
  have pn : ∀ p ∈ B.gp Lo ip, s.heap.get? p.1 = some p.2 ∧ H p.1 = none ∧ p.1 ≠ B.X.env.locals ∧ p.1 ∉ B.X.fs ∧ ∀ v, p.2.data ≠ .cell v := fun p hp => I.pin p (List.mem_append_right _ (List.mem_append_right _ hp))
  have pL := pn (B.n, Lo) (List.mem_cons_of_mem _ List.mem_cons_self)
  have pa := pn (B.a, B.go) List.mem_cons_self
  have nsz : B.n < s.heap.objs.size := Heap.lt_size pL.1
  have nsz' : B.n ≤ s.heap.objs.size := Nat.le_of_lt nsz
  have csz : (cutSh B.n s).heap.objs.size = B.n := cutH_size nsz'
  have I0 : Inv B.X B.pins c H s := I.pins_of fun p hp => I.pin p (List.mem_append_right _ (List.mem_append_left _ hp))
  have bsz : B.X.base.objs.size ≤ B.n := Nat.le_trans I.ok.bsz h.s0
  have bs : ∀ b o, B.X.base.get? b = some o → (cutH B.n s.heap).get? b = some o ∧ H b = none := fun b o e => by
    obtain ⟨e1, e2⟩ := I.bs b o e
    exact ⟨by rw [cutH_at (Nat.lt_of_lt_of_le (Heap.lt_size e) bsz)]; exact e1, e2⟩
  have fun1 : (cutH B.n s.heap).FunFrames B.X.base B.X.stack := by
    have all : ∀ l : List Env, (∀ b ∈ frs l, b < B.n) → s.heap.FunFrames B.X.base l → (cutH B.n s.heap).FunFrames B.X.base l := by
      intro l
      induction l with
      | nil => exact fun _ _ => trivial
      | cons e r ih =>
        rintro hf ⟨hk, ⟨L, o, q1, q2, q3, q4⟩, hr⟩
        refine ⟨hk, ⟨L, o, q1, q2, ?_, q4⟩, ih (fun b hb => hf b ?_) hr⟩
        · rw [cutH_at (hf L (List.mem_filterMap.mpr ⟨e, List.mem_cons_self, q1⟩))]; exact q3
        · obtain ⟨e', m, q⟩ := List.mem_filterMap.mp hb
          exact List.mem_filterMap.mpr ⟨e', List.mem_cons_of_mem _ m, q⟩
    exact all _ h.frs I.stack
  obtain ⟨hlen, hlc, m, hm, hv⟩ := hl
  have nofs : ∀ b, B.n ≤ b → b ∉ frs B.X.stack := fun b hb hm => Nat.lt_irrefl _ (Nat.lt_of_lt_of_le (h.frs b hm) hb)
  have hce : ∀ x c, B.env.cells.lookup x ≠ some c := fun x c e => by rw [env_cells h] at e; cases e
  refine ⟨hi, s, H, I0, nsz', rfl, ?_⟩
  have henv := B.F_env (H := H) csz
  have hA := B.F_A (H := H) csz
  have hex : (B.F (cutSh B.n s) H).ex = [] := rfl
  have cells0 : (B.F (cutSh B.n s) H).env.cells = [] := by rw [henv]; exact env_cells h
  refine ⟨⟨I.ok.mod, ?_, ?_, ?_, ?_, ?_, ?_, ?_, ?_, ?_, ?_, ?_, bs, ?_, ?_, ?_, fun1, ?_⟩, rfl, I.bare, ?_, ?_, ?_, ?_, ?_, ?_, I.hok, hlen⟩
  · rw [henv]; exact h.kind
  · rfl
  · rfl
  · rw [henv]; exact Nat.le_of_eq csz
  · intro x y c e; rw [cells0] at e; cases e
  · intro x hx
    rw [henv] at hx
    rcases hx with e | e
    · exact absurd e (names_kind h.nocell x).1
    · exact absurd e (names_kind h.nocell x).2
  · intro x c _ e; rw [cells0] at e; cases e
  · intro _; rw [hA]; exact h.hd
  · rw [hA]
    show (B.A.deeper B.env).frames = some (envOfC B.qual B.scope (cutSh B.n s).heap.objs.size B.f B.cd :: B.X.stack)
    rw [csz]
    exact Around.frames_deeper h.frames
  · exact .inr ⟨rfl, rfl⟩
  · intro b hb; cases hb
  · show B.X.base.objs.size ≤ (cutSh B.n s).heap.objs.size
    rw [csz]; exact bsz
  · intro b o _ hb; cases hb
  · intro b hb; cases hb
  · exact I.stkFree
  · refine ⟨fun b o e _ _ _ => (cutH_no e).2, fun b o e _ _ _ => ⟨o.slots, (cutH_no e).2⟩, fun _ _ _ q _ => q, fun b o e _ => ⟨o, (cutH_no e).2⟩, fun _ _ q => q, fun _ _ _ q => q, fun _ ps q => ⟨#[], by rw [show H _ = _ from q]; simp⟩⟩
  · rw [henv]
    refine ⟨m, hm _ pL.1, fun i x v e1 e2 e3 => ?_⟩
    obtain ⟨u, r, k, q⟩ := hv i x v e1 e2 e3
    exact ⟨u, r, .inl ⟨k, q⟩⟩
  · intro x c e; rw [cells0] at e; cases e
  · rw [henv]; exact pL.2.1
  · intro x c e; rw [cells0] at e; cases e
  · intro p hp
    rw [henv]
    have hp : p ∈ [(B.a, B.go)] ++ (pinsAt B.own s.heap ++ ip) := hp
    show s.heap.get? p.1 = some p.2 ∧ H p.1 = none ∧ p.1 ≠ B.n ∧ p.1 ∉ frs B.X.stack ∧ _
    rcases List.mem_append.mp hp with z | z
    · rw [List.mem_singleton.mp z]
      exact ⟨pa.1, pa.2.1, Nat.ne_of_gt h.an, nofs _ (Nat.le_of_lt h.an), h.goc⟩
    · rcases List.mem_append.mp z with z | z
      · obtain ⟨z1, z2⟩ := of_pinsAt z
        have lt := own_lt h z1
        obtain ⟨e, _⟩ := own_mem z1
        refine ⟨z2, by rw [e]; exact I.free, Nat.ne_of_gt lt.1, nofs _ (Nat.le_of_lt lt.1), fun v q => ?_⟩
        obtain ⟨m', ⟨o, es, ep, ho, hd, _⟩, _⟩ := I.loc
        rw [← e, z2] at ho
        cases ho
        rw [hd] at q; cases q
      · obtain ⟨q1, q2, q3, q4, q5⟩ := pn p (List.mem_cons_of_mem _ (List.mem_cons_of_mem _ z))
        refine ⟨q1, q2, Nat.ne_of_gt (hi p z).2, fun hm => ?_, q5⟩
        rcases List.mem_cons.mp (I.stkSub _ hm) with y | y
        · exact q3 y
        · exact q4 y

/-- the frame's object tells what the context's invariant tells -/
theorem LocOk.of {c : List (Addr × Obj)} {σ : St} {H H0 : Hp} {s s0 : Shared} (h : HostOk B) (hs : s0.heap.objs.size = B.n) (I : Inv (B.F s0 H0) c σ H s) : ∃ Lo, s.heap.get? B.n = some Lo ∧ LocOk B Lo σ := by
  obtain ⟨m, hn, hv⟩ := I.loc
  have henv := B.F_env (H := H0) hs
  rw [henv] at hn hv
  obtain ⟨o, es, ep, ho, hd, r⟩ := hn
  refine ⟨o, ho, I.len, (fun v q => by rw [hd] at q; cases q), m, fun h' e => ⟨o, es, ep, e, hd, r⟩, fun i x v e1 e2 e3 => ?_⟩
  obtain ⟨u, q1, q2⟩ := hv i x v e1 e2 e3
  refine ⟨u, q1, ?_⟩
  rcases q2 with q2 | ⟨_, c, e, _⟩
  · exact q2
  · rw [env_cells h] at e; cases e

/-- the generator hands its turn back -/
theorem Host.rest {c : St} {ip : List (Addr × Obj)} {σ : St} {H : Hp} {s : Shared} (h : HostOk B) (hr : B.Run c ip σ H s) : ∃ Lo, Inv B.X (B.pins ++ B.gp Lo ip) c H s ∧ LocOk B Lo σ := by
  obtain ⟨hi, sr, Hr, Ir, nsz, hos, I⟩ := hr
  have csz : (cutSh B.n sr).heap.objs.size = B.n := cutH_size nsz
  obtain ⟨Lo, hLo, lok⟩ := LocOk.of h csz I
  have henv := B.F_env (H := Hr) csz
  have hfree : H B.n = none := by
    have z := I.free
    rw [henv] at z
    exact z
  have own_at : ∀ b ∈ B.own, ∀ o, sr.heap.get? b = some o → s.heap.get? b = some o ∧ H b = none := fun b hb o e => by
    have z := I.pin (b, o) (List.mem_append_right _ (List.mem_append_left _ (mem_pinsAt hb e)))
    exact ⟨z.1, z.2.1⟩
  have base : Un (frs B.X.stack) [] Hr H (cutH B.n sr.heap) s.heap := I.base
  have ge : ∀ {b}, b ∉ (List.range' B.n (sr.heap.objs.size - B.n)).filter (fun b => !B.own.contains b) → ∀ o, sr.heap.get? b = some o → b < B.n ∨ b ∈ B.own := fun {b} hb o e => by
    by_cases hlt : b < B.n
    · exact .inl hlt
    · refine .inr ?_
      have e2 := Heap.lt_size e
      refine Decidable.byContradiction fun z => hb ?_
      refine List.mem_filter.mpr ⟨?_, by simpa using z⟩
      refine List.mem_range'_1.mpr ⟨Nat.le_of_not_lt hlt, ?_⟩
      rw [Nat.add_sub_cancel' nsz]
      exact e2
  have J : Inv B.X B.pins c H s := by
    refine Ir.call' (ch := (List.range' B.n (sr.heap.objs.size - B.n)).filter (fun b => !B.own.contains b)) hos.symm ⟨fun b o e n hf hx => ?_, fun b o e n hf hx => ?_, fun b o e n hx => ?_, fun b o e hx => ?_, base.tups, base.frzs, base.tbls⟩ I.hok I.bare fun b hb => ?_
    · rcases ge hx o e with z | z
      · exact base.keep b o (by rw [cutH_at z]; exact e) n hf (by simp)
      · exact (own_at b z o e).1
    · rcases ge hx o e with z | z
      · exact base.slot b o (by rw [cutH_at z]; exact e) n hf (by simp)
      · exact ⟨o.slots, (own_at b z o e).1⟩
    · rcases ge hx o e with z | z
      · exact base.free b o (by rw [cutH_at z]; exact e) n (by simp)
      · exact (own_at b z o e).2
    · rcases ge hx o e with z | z
      · exact base.there b o (by rw [cutH_at z]; exact e) (by simp)
      · exact ⟨o, (own_at b z o e).1⟩
    · obtain ⟨hb1, hb2⟩ := List.mem_filter.mp hb
      have hn : B.n ≤ b := (List.mem_range'_1.mp hb1).1
      have hb2 : b ∉ B.own := by simpa using hb2
      refine ⟨.inr (Nat.le_trans h.s0 hn), own_no hb2 hn, fun x c e z => ?_, fun p hp z => ?_⟩
      · have := h.cells x c e
        rw [z] at this
        exact Nat.lt_irrefl _ (Nat.lt_of_lt_of_le this hn)
      · have := h.pin p hp
        rw [z] at this
        exact Nat.lt_irrefl _ (Nat.lt_of_lt_of_le this hn)
  have nofs : ∀ b, b ∉ frs B.X.stack → b ∉ B.X.fs := fun b hb hm => by
    refine hb ?_
    rcases Ir.ok.stk with z | ⟨z, z2⟩
    · rw [z]; exact hm
    · rw [z]
      show b ∈ frs (B.X.env :: B.X.outer)
      unfold frs
      rw [List.filterMap_cons, z2]
      exact List.mem_cons_of_mem _ hm
  refine ⟨Lo, J.pins_of fun p hp => ?_, lok⟩
  rcases List.mem_append.mp hp with hp | hp
  · exact J.pin p (List.mem_append_right _ hp)
  · rcases List.mem_cons.mp hp with hp | hp
    · rw [hp]
      have z := I.pin (B.a, B.go) (List.mem_append_left _ (List.mem_singleton.mpr rfl))
      exact ⟨z.1, z.2.1, Ne.symm h.loc.2, nofs _ z.2.2.2.1, h.goc⟩
    · rcases List.mem_cons.mp hp with hp | hp
      · rw [hp]
        exact ⟨hLo, hfree, Ne.symm h.loc.1, nofs _ (fun hm => Nat.lt_irrefl _ (h.frs _ hm)), lok.2.1⟩
      · have z := I.pin p (List.mem_append_right _ (List.mem_append_right _ hp))
        obtain ⟨q1, q2, q3, q4, q5⟩ := z
        exact ⟨q1, q2, own_no (hi p hp).1 (Nat.le_of_lt (hi p hp).2), nofs _ q4, q5⟩

/-! ### the protocol -/
/-- what a generator's statement wants behind it: by the walker's state, the number of items so far -/
structure WEnds where
  nx : St → Nat → St → Hp → Prop
  rt : St → Nat → VK
  bk : St → Nat → St → Hp → Prop := fun _ _ _ _ => False
  ct : St → Nat → St → Hp → Prop := fun _ _ _ _ => False
/-- what the walker does with an item -/
abbrev WY := St → V → Hp → (St → Hp → Prop) → Prop
abbrev TGw := WY → WEnds → St → Nat → St → Hp → Prop
def WEnds.at (D : WEnds) (c : St) (k : Nat) : Ends := { nx := D.nx c k, rt := D.rt c k, bk := D.bk c k, ct := D.ct c k }
def Host.Y (B : Host) (Yc : WY) : Protocol := fun n s₀ v s kap =>
  ∃ c x H Lo ip kk, RelV x v ∧ Inv B.X (B.pins ++ B.gp Lo ip) c H s ∧ Yc c x H kk ∧ ∀ c' H' s', kk c' H' → Inv B.X (B.pins ++ B.gp Lo ip) c' H' s' → kap (.send .none) s' ∧ kap (.send (.int 0 0)) s'
def Host.R (B : Host) (Rc : St → Hp → Prop) : GenEnd := fun n s₀ r s =>
  ((r = .ok (.ret .none) ∨ r = .ok .next) ∧ ∃ c H Lo ip, Inv B.X (B.pins ++ B.gp Lo ip) c H s ∧ Rc c H) ∨ ∃ e, r = .error e ∧ False
def Host.P (B : Host) (ip : List (Addr × Obj)) (D : WEnds) (c : St) (k : Nat) (f : Flow) (s : Shared) : Prop :=
  match f with
  | .next => ∃ σ H, B.Run c ip σ H s ∧ D.nx c k σ H
  | .brk => ∃ σ H, B.Run c ip σ H s ∧ D.bk c k σ H
  | .cont => ∃ σ H, B.Run c ip σ H s ∧ D.ct c k σ H
  | .ret u => ∃ v σ H, B.Run c ip σ H s ∧ RelV v u ∧ D.rt c k v H
/-- where the generator's code stands -/
structure WC (B : Host) (c : Code) (fs : List Frame) (gd : Bool → Bool) : Prop where
  over : B.A.over c fs = B.A.deeper B.env
  split : splitAtGen fs = none
  guard : fs.any Frame.guarded = false
  gd : gd false = false
structure WK (B : Host) (Yc : WY) (Rc : St → Hp → Prop) (ip : List (Addr × Obj)) (c : Code) (fs : List Frame) (K : Flow → Sem PySem.Fin) (J : Value → Sem PySem.Fin) (D : WEnds) : Prop where
  ok : ∀ (n : Nat) (cs : St) (k : Nat) (s₀ s : Shared) (f : Flow), n + k = sizeLine → B.P ip D cs k f s → Seg (model B.X.prog B.X.w) B.A (B.R Rc) (B.Y Yc) n s₀ c (K f) fs s
  exc : ∀ (n : Nat) (s₀ s1 : Shared) (H1 : Hp) (e : Value) (s : Shared), s1.heap.objs.size = B.n → (B.F s1 H1).xe e s → Seg (model B.X.prog B.X.w) B.A (B.R Rc) (B.Y Yc) n s₀ c (J e) fs s
def GSw (B : Host) (st : Stmt) (t : TGw) : Prop := ∀ (Yc : WY) (Rc : St → Hp → Prop) (ip : List (Addr × Obj)) (n : Nat) (cs : St) (k : Nat) (s₀ : Shared) (c : Code) (fs : List Frame) (K : Flow → Sem PySem.Fin) (J : Value → Sem PySem.Fin) (gd : Bool → Bool) (lv : List Value → List Value) (s : Shared) (σ : St) (H : Hp) (D : WEnds),
  WC B c fs gd → n + k = sizeLine → WK B Yc Rc ip c fs K J D → B.Run cs ip σ H s → t Yc D cs k σ H → Seg (model B.X.prog B.X.w) B.A (B.R Rc) (B.Y Yc) n s₀ c ((exec st B.env).wrap K J gd lv) fs s
def GSsw (B : Host) (st : List Stmt) (t : TGw) : Prop := ∀ (Yc : WY) (Rc : St → Hp → Prop) (ip : List (Addr × Obj)) (n : Nat) (cs : St) (k : Nat) (s₀ : Shared) (c : Code) (fs : List Frame) (K : Flow → Sem PySem.Fin) (J : Value → Sem PySem.Fin) (gd : Bool → Bool) (lv : List Value → List Value) (s : Shared) (σ : St) (H : Hp) (D : WEnds),
  WC B c fs gd → n + k = sizeLine → WK B Yc Rc ip c fs K J D → B.Run cs ip σ H s → t Yc D cs k σ H → Seg (model B.X.prog B.X.w) B.A (B.R Rc) (B.Y Yc) n s₀ c ((execs st B.env).wrap K J gd lv) fs s
/-- under a context of the family -/
theorem Run.split {cs : St} {ip : List (Addr × Obj)} {σ : St} {H : Hp} {s : Shared} (hr : B.Run cs ip σ H s) : ∃ s1 H1 pins, s1.heap.objs.size = B.n ∧ (∀ p ∈ pins, p.1 ∈ B.own) ∧ Inv (B.F s1 H1) (pins ++ ip) σ H s ∧ (∀ b ∈ B.own, ∃ p ∈ pins, p.1 = b) ∧
    ∀ ip' σ' H' s', (∀ p ∈ ip', p.1 ∉ B.own ∧ B.n < p.1) → Inv (B.F s1 H1) (pins ++ ip') σ' H' s' → B.Run cs ip' σ' H' s' := by
  obtain ⟨hi, sr, Hr, Ir, nsz, hos, I⟩ := hr
  refine ⟨cutSh B.n sr, Hr, pinsAt B.own sr.heap, cutH_size nsz, fun p hp => (of_pinsAt hp).1, I, fun b hb => ?_, fun ip' σ' H' s' h' I' => ⟨h', sr, Hr, Ir, nsz, I'.os.symm, I'⟩⟩
  obtain ⟨e, _⟩ := own_mem hb
  obtain ⟨m, ⟨o, _, _, ho, _⟩, _⟩ := Ir.loc
  rw [← e] at ho
  exact ⟨(b, o), mem_pinsAt hb ho, rfl⟩
/-- a statement that hands out nothing -/
def tPlainW (t : TS) : TGw := fun _ D c k σ H => t (D.at c k) σ H
theorem Host.P_of {ip pins : List (Addr × Obj)} {D : WEnds} {cs : St} {k : Nat} {f : Flow} {s s1 : Shared} {H1 : Hp} (hb : ∀ σ' H' s', Inv (B.F s1 H1) (pins ++ ip) σ' H' s' → B.Run cs ip σ' H' s') (h : SP (B.F s1 H1) (pins ++ ip) (D.at cs k) f s) : B.P ip D cs k f s := by
  cases f with
  | next => obtain ⟨σ, H, I, q⟩ := h; exact ⟨σ, H, hb _ _ _ I, q⟩
  | brk => obtain ⟨σ, H, I, q⟩ := h; exact ⟨σ, H, hb _ _ _ I, q⟩
  | cont => obtain ⟨σ, H, I, q⟩ := h; exact ⟨σ, H, hb _ _ _ I, q⟩
  | ret u => obtain ⟨v, σ, H, I, r, q⟩ := h; exact ⟨v, σ, H, hb _ _ _ I, r, q⟩
theorem gw_ps {st : Stmt} {t : TS} (h : ∀ s H, s.heap.objs.size = B.n → PS (B.F s H) st t) : GSw B st (tPlainW t) := by
  intro Yc Rc ip n cs k s₀ c fs K J gd lv s σ H D g hn kk hr ht
  obtain ⟨s1, H1, pins, hs, _, I, _, back⟩ := Run.split hr
  have hi := hr.1
  refine seg_wrap ?_
  rw [g.over]
  have z := (h s1 H1 hs).run _ s σ H (D.at cs k) I ht
  rw [B.F_env hs, B.F_A hs] at z
  exact wpAny_mono z (fun f s' q => kk.ok n cs k s₀ s' f hn (Host.P_of (fun σ' H' s' I' => back ip σ' H' s' hi I') q)) fun x s' hx => kk.exc n s₀ s1 H1 x s' hs hx
def tW0 : TGw := fun _ D c k σ H => D.nx c k σ H
theorem gw_nil : GSsw B [] tW0 := by
  intro Yc Rc ip n cs k s₀ c fs K J gd lv s σ H D g hn kk hr ht
  exact seg_execs_nil (kk.ok n cs k s₀ s .next hn ⟨σ, H, hr, ht⟩)
def tWThen (t u : TGw) : TGw := fun Y D c k σ H => t Y { D with nx := fun c' k' σ' H' => u Y D c' k' σ' H' } c k σ H
theorem gw_cons {st : Stmt} {rest : List Stmt} {t u : TGw} (a : GSw B st t) (b : GSsw B rest u) : GSsw B (st :: rest) (tWThen t u) := by
  intro Yc Rc ip n cs k s₀ c fs K J gd lv s σ H D g hn kk hr ht
  refine seg_execs_cons ?_
  refine a Yc Rc ip n cs k s₀ c fs _ J gd lv s σ H { D with nx := fun c' k' σ' H' => u Yc D c' k' σ' H' } g hn ⟨fun n' cs' k' s₀' s' f hn' hs => ?_, kk.exc⟩ hr ht
  cases f with
  | next => obtain ⟨σ', H', I', q⟩ := hs; exact b Yc Rc ip n' cs' k' s₀' c fs K J gd lv s' σ' H' D g hn' kk I' q
  | brk => exact kk.ok n' cs' k' s₀' s' .brk hn' hs
  | cont => exact kk.ok n' cs' k' s₀' s' .cont hn' hs
  | ret u => exact kk.ok n' cs' k' s₀' s' (.ret u) hn' hs
def tWIf (tc : TT) (ta tb : TGw) : TGw := fun Y D c k σ H => tc σ H fun b H1 => if b = true then ta Y D c k σ H1 else tb Y D c k σ H1
theorem gw_if {e : Expr} {a b : List Stmt} {pos : Pos} {tc : TT} {ta tb : TGw} (hc : ∀ s H, s.heap.objs.size = B.n → PT (B.F s H) e tc) (ha : GSsw B a ta) (hb : GSsw B b tb) : GSw B (.If e a b pos) (tWIf tc ta tb) := by
  intro Yc Rc ip n cs k s₀ c fs K J gd lv s σ H D g hn kk hr ht
  obtain ⟨s1, H1, pins, hs, _, I, _, back⟩ := Run.split hr
  have hi := hr.1
  show Seg _ B.A _ _ n s₀ c (.at pos fun _ => ((isTrue e B.env (eval e B.env)) >>= fun b' => if b' = true then execs a B.env else execs b B.env).wrap K J gd lv) fs s
  refine seg_at ?_
  rw [Sem.bind_eq_wrap', Sem.wrap_wrap]
  refine seg_wrap ?_
  rw [g.over]
  have z := (hc s1 H1 hs).run _ s σ H _ I ht
  rw [B.F_env hs, B.F_A hs] at z
  refine wpAny_mono z ?_ fun x s' hx => kk.exc n s₀ s1 H1 x s' hs hx
  rintro b' s' ⟨H2, I2, q2⟩
  have r2 := back ip _ _ _ hi I2
  cases b' with
  | true => exact ha Yc Rc ip n cs k s₀ c fs K J gd lv s' σ H2 D g hn kk r2 (by simpa using q2)
  | false => exact hb Yc Rc ip n cs k s₀ c fs K J gd lv s' σ H2 D g hn kk r2 (by simpa using q2)
/-! ### yield -/
def tWYield (te : TE) : TGw := fun Y D c k σ H => k < sizeLine ∧ te σ H fun x H1 => Y c x H1 fun c' H2 => D.nx c' (k + 1) σ H2
theorem gw_yield {e : Expr} {yp pos : Pos} {te : TE} (h : HostOk B) (he : ∀ s H, s.heap.objs.size = B.n → PE (B.F s H) e te) (hco : B.env.scope.isCoroutine = false := by rfl) (hi : interactive B.env = false := by rfl) : GSw B (.Expr (.Yield (some e) yp) pos) (tWYield te) := by
  intro Yc Rc ip n cs k s₀ c fs K J gd lv s σ H D g hn kk hr ht
  obtain ⟨hlt, ht⟩ := ht
  obtain ⟨n, rfl⟩ : ∃ m, n = m + 1 := ⟨n - 1, by omega⟩
  obtain ⟨s1, H1, pins, hs, _, I, _, back⟩ := Run.split hr
  have hip := hr.1
  refine seg_Expr_Yield g.split g.gd g.guard ?_ hco hi
  rw [g.over]
  have z := (he s1 H1 hs).run _ s σ H _ I ht
  rw [B.F_env hs, B.F_A hs] at z
  refine wpAny_mono z (fun v s' hv => ?_) fun x s' hx => kk.exc _ s₀ s1 H1 x s' hs hx
  obtain ⟨x, H2, I2, rv, q⟩ := hv
  have r2 := back ip _ _ _ hip I2
  obtain ⟨Lo, J2, lok⟩ := Host.rest h r2
  intro kap hk
  refine ⟨cs, x, H2, Lo, ip, _, rv, J2, q, fun c' H' s'' hc I'' => ?_⟩
  have z := kk.ok n c' (k + 1) s'' s'' .next (by omega) ⟨σ, H', Host.wake h I'' lok hip, hc⟩
  exact ⟨hk .none s'' z, hk (.int 0 0) s'' z⟩
end
end L2

/-! for in a generator that is walked in turns. -/
namespace L2
open PySem PySem.Spec PyProof.Rows GenW
section
variable {B : Host}
def tWFor (wi : TI) (g : TG) (tb : TGw) : TGw := fun Y D c k σ H => wi σ H fun J H0 => ∃ W : Nat → Nat → St → Nat → St → Hp → Prop, (∃ m, W 0 m c k σ H0) ∧ ∀ i m c k σ H, W i m c k σ H →
  (J.stop i H ∧ D.nx c k σ H) ∨ (J.go i H ∧ ∃ N : St → Nat → St → Hp → Prop, (∀ c' k' σ' H', N c' k' σ' H' → ∃ m', m' < m ∧ W (i + 1) m' c' k' σ' H') ∧
    ∀ x H', J.yld i H x H' → g x σ H' fun σ1 H1 => tb Y { D with nx := N, ct := N, bk := D.nx } c k σ1 H1)
theorem WC.loop {c c' : Code} {fs : List Frame} {gd : Bool → Bool} {kk : Result → Sem PySem.Fin} {l kp : List Value} {p : Pos} (g : WC B c fs gd) (hw : c'.weight = 0) (hu : c'.cUnits = 0) :
    WC B c' (.ret kk none (gd false) l c p kp :: fs) id where
  over := (over_loop hw hu).trans g.over
  split := by
    show (splitAtGen fs).map _ = none
    rw [g.split]; rfl
  guard := by
    show (gd false || fs.any Frame.guarded) = false
    rw [g.gd, g.guard]; rfl
  gd := rfl
theorem Host.owns (B : Host) {s : Shared} {H : Hp} (h : s.heap.objs.size = B.n) : PassesOwn (model B.X.prog B.X.w) (B.A.deeper B.env) B.env (B.F s H).xe := by
  have z := owns_gcx (P := B.X.prog) (w := B.X.w) (K := B.X.K) (mg := B.X.mg) (base := B.X.base) (N := B.N) (qual := B.qual) (scope := B.scope) (f := B.f) (cd := B.cd) (A := B.A) (outer := B.X.stack) (s := s) (H := H) (E := E0) (pn := [(B.a, B.go)])
  have e1 := B.F_env (H := H) h
  have e2 := B.F_A (H := H) h
  rw [e1, e2] at z
  exact z
theorem seg_camew {Yc : WY} {Rc : St → Hp → Prop} {ip : List (Addr × Obj)} {c : Code} {fs : List Frame} {K : Flow → Sem PySem.Fin} {J : Value → Sem PySem.Fin} {gd : Bool → Bool} {lv : List Value → List Value} {D : WEnds} {n : Nat} {s₀ s s1 : Shared} {H1 : Hp} {e : Value}
    (g : WC B c fs gd) (k : WK B Yc Rc ip c fs K J D) (hs : s1.heap.objs.size = B.n) (h : cameBackBy (model B.X.prog B.X.w) (B.A.deeper B.env) B.env (B.F s1 H1).xe e s) :
    Seg (model B.X.prog B.X.w) B.A (B.R Rc) (B.Y Yc) n s₀ c (((Sem.raise e : Sem Flow).onRaise (cameBack B.env)).wrap K J gd lv) fs s := by
  show Seg _ _ _ _ _ _ _ (((cameBack B.env e).bind fun _ => (Sem.raise e : Sem Flow)).wrap K J gd lv) _ _
  rw [Sem.bind_eq_wrap, Sem.wrap_wrap]
  refine seg_wrap ?_
  rw [g.over]
  exact wpAny_mono h (fun _ s' hx => k.exc n s₀ s1 H1 e s' hs hx) fun x s' hx => k.exc n s₀ s1 H1 x s' hs hx
theorem gw_for {tg iter : Expr} {body : List Stmt} {wi : TI} {gt : TG} {tb : TGw} {pos : Pos} (hH : HostOk B) (hi : ∀ s H, s.heap.objs.size = B.n → PI (B.F s H) tg iter wi) (hg : ∀ s H, s.heap.objs.size = B.n → PG (B.F s H) tg gt) (hb : GSsw B body tb)
    (hs : ∀ x, foldedSetIterable iter B.env x = pure x := by intro _; rfl) : GSw B (.For tg iter body [] pos) (tWFor wi gt tb) := by
  intro Yc Rc ip n cs k s₀ c fs K J' gd lv s σ H D gc hn kk hr ht
  obtain ⟨sA, HA, pins, hsz, hpo, I, hpe, back⟩ := Run.split hr
  have hip := hr.1
  refine seg_For hs ?_
  rw [gc.over]
  have z := (hi sA HA hsz).run _ s σ H _ I ht
  rw [B.F_env hsz, B.F_A hsz] at z
  refine wpAny_mono z (fun v s1 h1 => ?_) fun x s' hx => kk.exc n s₀ sA HA x s' hsz hx
  refine wpAny_mono h1 (fun itv s2 h2 => ?_) fun x s' hx => kk.exc n s₀ sA HA x s' hsz hx
  obtain ⟨it, fp, tn, J, H2, rfl, I2, T, st2, f2, W, ⟨m0, w0⟩, turn⟩ := h2
  intro p
  have gl := fun (q : Result → Sem PySem.Fin) => gc.loop (kk := q) (c' := .forLoop tg (.ref it) body [] B.env) (l := lv []) (kp := []) (p := p) rfl rfl
  -- what is known of the iterator's objects for good
  have fpn : ∀ b ∈ fp, B.n < b ∧ b ∉ B.own ∧ b ≠ B.a ∧ b ∉ frs B.X.stack ∧ ∀ q ∈ ip, q.1 ≠ b := fun b hb => by
    obtain ⟨a0, a1, a2, a3, a4, a5⟩ := f2 b hb
    have a1 : b ≠ sA.heap.objs.size := a1
    have a3 : B.n ≤ b := by
      rcases a3 with a3 | a3
      · cases a3
      · have a3 : sA.heap.objs.size ≤ b := a3
        rw [hsz] at a3; exact a3
    rw [hsz] at a1
    refine ⟨Nat.lt_of_le_of_ne a3 (Ne.symm a1), fun ho => ?_, fun e => ?_, a2, fun q hq => ?_⟩
    · obtain ⟨q, hq, e⟩ := hpe b ho
      exact a5 q (List.mem_append_right _ (List.mem_append_left _ hq)) e
    · exact a5 (B.a, B.go) (List.mem_append_left _ (List.mem_singleton.mpr rfl)) e.symm
    · exact a5 q (List.mem_append_right _ (List.mem_append_right _ hq))
  have stat : ∀ {s1 : Shared} {H1 : Hp} {pn : List (Addr × Obj)} {H' : Hp}, s1.heap.objs.size = B.n → (∀ q ∈ pn, q.1 ∈ B.own) → (∀ b ∈ fp, H' b = none) → ∀ b ∈ fp, FpOk (B.F s1 H1) (pn ++ ip) H' b := fun {s1 H1 pn H'} h1 h2 h3 b hb => by
    obtain ⟨b1, b2, b3, b4, b5⟩ := fpn b hb
    have e := B.F_env (H := H1) h1
    refine ⟨h3 b hb, ?_, b4, .inr ?_, fun x c q => ?_, fun q hq => ?_⟩
    · rw [e]; exact Nat.ne_of_gt b1
    · show s1.heap.objs.size ≤ b
      rw [h1]; exact Nat.le_of_lt b1
    · rw [e, env_cells hH] at q; cases q
    · have hq : q ∈ [(B.a, B.go)] ++ (pn ++ ip) := hq
      rcases List.mem_append.mp hq with hq | hq
      · rw [List.mem_singleton.mp hq]; exact Ne.symm b3
      · rcases List.mem_append.mp hq with hq | hq
        · exact fun e => b2 (e ▸ h2 q hq)
        · exact b5 q hq
  have ee : ∀ (n : Nat) (s₀ s1 : Shared) (H1 : Hp) (x : Value) (s' : Shared), s1.heap.objs.size = B.n → (B.F s1 H1).xe x s' → Seg (model B.X.prog B.X.w) B.A (B.R Rc) (B.Y Yc) n s₀ (.forLoop tg (.ref it) body [] B.env) (errT B.env x)
      (.ret (fun r => ((match r with | .ok f => (.pure f : Sem Flow) | .error e => .raise e).onRaise (cameBack B.env)).wrap K J' gd lv) none (gd false) (lv []) c p [] :: fs) s' := fun n s₀ s1 H1 x s' h1 hx => by
    refine seg_wrap ?_
    rw [(gl _).over]
    refine wpAny_bind (wpAny_mono (B.owns h1 x s' hx) (fun _ s'' hcb => wpAny_theTreesLotGoes ?_) fun y s'' hcb => ?_)
    · exact seg_leaf (.error x) (seg_camew gc kk h1 hcb)
    · exact seg_leaf (.error y) (seg_camew gc kk h1 hcb)
  have loop : ∀ (m i n : Nat) (cs : St) (k : Nat) (s₀ s : Shared) (σ : St) (H : Hp), n + k = sizeLine → W i m cs k σ H → B.Run cs ip σ H s → tn i s.heap → (∀ b ∈ fp, H b = none) →
      Seg (model B.X.prog B.X.w) B.A (B.R Rc) (B.Y Yc) n s₀ (.forLoop tg (.ref it) body [] B.env) ((model B.X.prog B.X.w).den (.forLoop tg (.ref it) body [] B.env))
        (.ret (fun r => ((match r with | .ok f => (.pure f : Sem Flow) | .error e => .raise e).onRaise (cameBack B.env)).wrap K J' gd lv) none (gd false) (lv []) c p [] :: fs) s := by
    intro m
    induction m using Nat.strongRecOn with
    | ind m ih =>
      intro i n cs k s₀ s σ H hn w hr st fr
      refine seg_forLoop ?_
      rw [(gl _).over]
      obtain ⟨s1, H1, pn, h1, hpo1, I, hpe1, back1⟩ := Run.split hr
      have A1 := B.F_A (H := H1) h1
      have E1 := B.F_env (H := H1) h1
      rcases turn i m cs k σ H w with ⟨stop, qn⟩ | ⟨go, N, hN, step⟩
      · have z := T.done (B.F s1 H1) rfl rfl rfl rfl i _ s σ H (B.F s1 H1).xe I (stat h1 hpo1 fr) st stop
        rw [A1] at z
        refine wpAny_mono z (fun rr s4 h4 => ?_) fun x s' hx => ee n s₀ s1 H1 x s' h1 hx
        obtain ⟨rfl, I4⟩ := h4
        exact seg_leaf (.ok .next) (kk.ok n cs k s₀ s4 .next hn ⟨σ, H, back1 ip _ _ _ hip I4, qn⟩)
      · have z := T.item (B.F s1 H1) rfl rfl rfl rfl i _ s σ H (B.F s1 H1).xe I (stat h1 hpo1 fr) st go
        rw [A1] at z
        refine wpAny_mono z (fun rr s4 h4 => ?_) fun x s' hx => ee n s₀ s1 H1 x s' h1 hx
        obtain ⟨u, rfl, h4⟩ := h4
        refine wpAny_mono h4 (fun _ s5 h5 => ?_) fun x s' hx => ee n s₀ s1 H1 x s' h1 hx
        obtain ⟨x, H5, I5, r5, y5, st5, fr5⟩ := h5
        have I5' := I5.pinned (stat h1 hpo1 fr5) (T.obj _ _ st5)
        have z := (hg s1 H1 h1).run _ s5 σ H5 x u _ I5' r5 (step x H5 y5)
        rw [A1, E1] at z
        refine wpAny_mono z (fun _ s6 h6 => ?_) fun x s' hx => ee n s₀ s1 H1 x s' h1 hx
        obtain ⟨σ6, H6, I6, q6⟩ := h6
        have hip' : ∀ q ∈ ip ++ pinsAt fp s5.heap, q.1 ∉ B.own ∧ B.n < q.1 := fun q hq => by
          rcases List.mem_append.mp hq with y | y
          · exact hip q y
          · obtain ⟨b1, b2, _⟩ := fpn q.1 (of_pinsAt y).1
            exact ⟨b2, b1⟩
        have R6 : B.Run cs (ip ++ pinsAt fp s5.heap) σ6 H6 s6 := back1 _ _ _ _ hip' (by rw [← List.append_assoc]; exact I6)
        refine hb Yc Rc (ip ++ pinsAt fp s5.heap) n cs k s₀ _ _ _ _ id id s6 σ6 H6 { D with nx := N, ct := N, bk := D.nx } (gl _) hn ⟨fun n' cs' k' s₀' s7 f hn' hs => ?_, fun n' s₀' s1 H1 x s7 h1 hx => ee n' s₀' s1 H1 x s7 h1 hx⟩ R6 q6
        have less : ∀ {σ7 : St} {H7 : Hp}, B.Run cs' (ip ++ pinsAt fp s5.heap) σ7 H7 s7 → B.Run cs' ip σ7 H7 s7 := fun {σ7 H7} r7 => by
          obtain ⟨s1, H1, pn, h1, _, I, _, back1⟩ := Run.split r7
          exact back1 ip _ _ _ hip (Inv.unpinned (pl := pinsAt fp s5.heap) (by rw [List.append_assoc]; exact I))
        have pin7 : ∀ {σ7 : St} {H7 : Hp}, B.Run cs' (ip ++ pinsAt fp s5.heap) σ7 H7 s7 → ∀ b ∈ fp, ∀ o, s5.heap.get? b = some o → s7.heap.get? b = some o ∧ H7 b = none := fun {σ7 H7} r7 b hb o e => by
          obtain ⟨s1, H1, pn, h1, _, I, _, back1⟩ := Run.split r7
          have y := I.pin (b, o) (List.mem_append_right _ (List.mem_append_right _ (List.mem_append_right _ (mem_pinsAt hb e))))
          exact ⟨y.1, y.2.1⟩
        have again : ∀ {σ7 : St} {H7 : Hp}, B.Run cs' (ip ++ pinsAt fp s5.heap) σ7 H7 s7 → N cs' k' σ7 H7 → Seg (model B.X.prog B.X.w) B.A (B.R Rc) (B.Y Yc) n' s₀' (.forLoop tg (.ref it) body [] B.env) (.pure (.again (.forLoop tg (.ref it) body [] B.env)))
            (.ret (fun r => ((match r with | .ok f => (.pure f : Sem Flow) | .error e => .raise e).onRaise (cameBack B.env)).wrap K J' gd lv) none (gd false) (lv []) c p [] :: fs) s7 := by
          intro σ7 H7 r7 n7
          obtain ⟨m', hm, w7⟩ := hN cs' k' σ7 H7 n7
          refine seg_again rfl (ih m' hm (i + 1) n' cs' k' s₀' s7 σ7 H7 hn' w7 (less r7) (T.keep _ _ _ st5 fun b hb o e => (pin7 r7 b hb o e).1) fun b hb => ?_)
          obtain ⟨o, e, d⟩ := T.obj _ _ st5 b hb
          exact (pin7 r7 b hb o e).2
        cases f with
        | next => obtain ⟨σ7, H7, I7, n7⟩ := hs; exact again I7 n7
        | cont => obtain ⟨σ7, H7, I7, n7⟩ := hs; exact again I7 n7
        | brk => obtain ⟨σ7, H7, I7, q7⟩ := hs; exact seg_leaf (.ok .next) (kk.ok n' cs' k' s₀' s7 .next hn' ⟨σ7, H7, less I7, q7⟩)
        | ret v => obtain ⟨x7, σ7, H7, I7, r7, q7⟩ := hs; exact seg_leaf (.ok (.ret v)) (kk.ok n' cs' k' s₀' s7 (.ret v) hn' ⟨x7, σ7, H7, less I7, r7, q7⟩)
  have R2 := back ip _ _ _ hip I2
  exact loop m0 0 n cs k s₀ s2 σ H2 hn w0 R2 st2 fun b hb => (f2 b hb).1
end
end L2

/-! A generator def that is walked in turns: its promise, by its body. -/
namespace L2
open PySem PySem.Spec PyProof.Rows GenW
abbrev TStart := WY → (St → Hp → Prop) → St → Hp → Prop
/-- what the call gives: a generator that has not begun; whoever walks it gets its items -/
def GMadeW (P : Program) (w : World) (K : PySem.W.Frag) (mg : Str → Option Value) (base : Heap) (k : Nat) (outer : List Env) (s : Shared) (st : TStart) (u : Value) (s' : Shared) : Prop :=
  ∃ (a : Addr) (g : Nat) (c : Code) (go Lo : Obj), u = .ref a ∧ s.heap.objs.size < a ∧ a < s'.heap.objs.size ∧ s'.heap.get? a = some go ∧ (∀ h : Heap, h.get? a = some go → h.IsGen a g) ∧ s'.heap.get? s.heap.objs.size = some Lo ∧ (∀ v, go.data ≠ .cell v) ∧ (∀ v, Lo.data ≠ .cell v) ∧
    s'.gens[g]? = some (.fresh c) ∧ s'.os = s.os ∧ AllBare s'.gens ∧ (∀ b o, s.heap.get? b = some o → s'.heap.get? b = some o) ∧
    ∀ (X : Cx) (pins : List (Addr × Obj)) (A : Around), X.prog = P → X.w = w → X.K = K → X.mg = mg → X.base = base → X.stack = outer → X.s_0.heap.objs.size ≤ s.heap.objs.size → (∀ x c, X.env.cells.lookup x = some c → c < s.heap.objs.size) →
      (∀ p ∈ X.pn ++ pins, p.1 < s.heap.objs.size) → (∀ b ∈ frs X.stack, b < s.heap.objs.size) → X.env.locals ≠ s.heap.objs.size → X.env.locals ≠ a → A.frames = some outer → Room k A →
      ∃ N q sco f cd, HostOk ⟨X, pins, s.heap.objs.size, N, q, sco, f, cd, A, a, go⟩ ∧ ∀ (Yc : WY) (Rc : St → Hp → Prop) (cs : St) (H2 : Hp) (s2 : Shared), st Yc Rc cs H2 → Inv X (pins ++ (⟨X, pins, s.heap.objs.size, N, q, sco, f, cd, A, a, go⟩ : Host).gp Lo []) cs H2 s2 →
        Seg (model P w) A ((⟨X, pins, s.heap.objs.size, N, q, sco, f, cd, A, a, go⟩ : Host).R Rc) ((⟨X, pins, s.heap.objs.size, N, q, sco, f, cd, A, a, go⟩ : Host).Y Yc) sizeLine s2 c ((model P w).den c) [] s2
abbrev SpW := List V → TStart
structure GFw (P : Program) (w : World) (K : PySem.W.Frag) (mg : Str → Option Value) (base : Heap) (k : Nat) (f : Addr) (fd : FuncData) (ps : List Str) (sp : SpW) : Prop where
  run : ∀ (A : Around) (outer : List Env) (s : Shared) (H : Hp) (args : Args) (us : List Value) (vs : List V), Room k A → Env0 P w K mg base A outer s H → BindsTo s fd args (ps.zip us) → Vals vs us → vs.length = ps.length →
    codeAny (model P w) A (.call (.ref f) args) (fun r s' => match r with | .ok (.ret u) => GMadeW P w K mg base k outer s (sp vs) u s' | _ => False) s
abbrev Cx.re (X : Cx) (P : Program) (w : World) (K : PySem.W.Frag) (mg : Str → Option Value) (base : Heap) : Cx := { X with prog := P, w := w, K := K, mg := mg, base := base }
/-- a def's start, by the reading of its body -/
def spW (t : TGw) (N : List Str) : SpW := fun vs Y R c H => t Y { nx := fun c' _ _ H' => R c' H', rt := fun c' _ v H' => v = .non ∧ R c' H' } c 0 (start N vs) H
theorem gfw_of {P : Program} {w : World} {K : PySem.W.Frag} {mg : Str → Option Value} {base : Heap} {k : Nat} {f : Addr} {name qual : Str} {params : Arguments} {body : List Stmt} {scope : Scope} {dV kV doc pm cdv ct oc : Value} {an od : Option Addr}
    {osl : Array (Option Value)} {N ps : List Str} {t : TGw} (lk : K.lookup f = some ⟨oc, od, .func (PySem.W.fnOf name qual params body scope dV kV doc pm an cdv ct), osl⟩) (hcd : PySem.W.codeIn K cdv qual = true) (S : GScope N ps scope) (hno : ∀ y ∈ scope.names, y.2 ≠ .cell ∧ y.2 ≠ .free)
    (hbody : ∀ (X : Cx) (pins : List (Addr × Obj)) (n : Nat) (A : Around) (a : Addr) (go : Obj), HostOk ⟨X.re P w K mg base, pins, n, N, qual, scope, f, cdv, A, a, go⟩ → (∀ (s : Shared) (H : Hp), s.heap.objs.size = n → Room k ((⟨X.re P w K mg base, pins, n, N, qual, scope, f, cdv, A, a, go⟩ : Host).F s H).A) →
      GSsw ⟨X.re P w K mg base, pins, n, N, qual, scope, f, cdv, A, a, go⟩ body t) :
    GFw P w K mg base (k + 1) f (PySem.W.fnOf name qual params body scope dV kV doc pm an cdv ct) ps (spW t N) := by
  refine ⟨fun A outer s H args us vs hr e0 hb r hl => ?_⟩
  have KX : K.In s.heap := e0.mod.kin.keeps fun b o e => (e0.bs b o e).1
  have lim : s.heap.NoLimit := e0.mod.nolimit.keeps fun b o e => (e0.bs b o e).1
  have hkind : ∀ y ∈ ps.zip us, scope.names.lookup y.1 = some .local ∨ (scope.names.lookup y.1 = some .cell ∧ ((cellsFrom (s.heap.objs.size + 1) scope.names []).lookup y.1).isSome = true) := fun ⟨n, v⟩ hy => by
    rcases S.par n (List.of_mem_zip hy).1 with q | q
    · exact .inl q
    · exact .inr ⟨q, PySem.W.cellsFrom_some _ _ _ (.inl q)⟩
  refine codeAny_call_generator hr.depth (KX _ _ lk) rfl S.co S.gen rfl (PySem.W.codeRec_of KX hcd) (hb _ _ _ _ ?_)
  refine wpAny_newFunctionEnv_cells S.kind hkind fun env he s1 x => ?_
  subst he
  have lim1 : s1.heap.NoLimit := lim.keeps x.toInCall.keep
  refine ⟨lim1, ?_⟩
  obtain ⟨h1, tk, es1, hk1⟩ := x.done
  have os1 : s1.os = s.os := by rw [es1]
  have gen1 : s1.gens = s.gens := by rw [es1]
  have lt1 : s.heap.objs.size < s1.heap.objs.size := x.toInCall.ns.lt
  have kp1 : ∀ b o, s.heap.get? b = some o → s1.heap.get? b = some o := x.toInCall.keep
  have I1 : Inv (gcxOf P w K mg base N qual scope f cdv A outer s H E0 []) [] (start N vs) H s1 := inv_startG S hr.hd e0 hl r x
  have main : ∀ (go : Obj) (nm qn : Value) (tk2 : Nat), go.cls = .type "generator" → go.data = .fields #[.int s1.gens.size 0, nm, qn] → go.slots = #[] → (∀ h : Heap, (h.push go).get? h.objs.size = some go) →
      GMadeW P w K mg base (k + 1) outer s (spW t N vs) (.ref s1.heap.objs.size) { s1 with gens := s1.gens.push (.fresh (.func body (envOfC qual scope s.heap.objs.size f cdv))), toks := tk2, heap := s1.heap.push go } := by
    intro go nm qn tk2 hgc hgd0 hgs hgp
    have hgen : ∀ h : Heap, h.get? s1.heap.objs.size = some go → h.IsGen s1.heap.objs.size s1.gens.size := fun h e => ⟨go, nm, qn, e, hgc, hgd0, hgs⟩
    obtain ⟨m, hm, hv⟩ := I1.loc
    obtain ⟨Lo, es, ep, ho, hd, rs⟩ := hm
    have ho : s1.heap.get? s.heap.objs.size = some Lo := ho
    have hgd : ∀ v, go.data ≠ .cell v := fun v q => by rw [hgd0] at q; cases q
    have hLd : ∀ v, Lo.data ≠ .cell v := fun v q => by rw [hd] at q; cases q
    refine ⟨s1.heap.objs.size, s1.gens.size, _, go, Lo, rfl, lt1, ?_, hgp _, hgen, Heap.get?_push_of_some _ ho, hgd, hLd, Array.getElem?_push_size .., os1, AllBare.push (by rw [gen1]; exact e0.bare) rfl, fun b o e => Heap.get?_push_of_some _ (kp1 b o e), ?_⟩
    · show _ < (s1.heap.push _).objs.size
      rw [Heap.size_push]; exact Nat.lt_succ_self _
    intro X pins Aw hP hw hK hmg hba hst hs0 hce hpi hfr hl1 hl2 hAf hrw
    subst hP hw hK hmg hba hst
    have HB : HostOk ⟨X, pins, s.heap.objs.size, N, qual, scope, f, cdv, Aw, s1.heap.objs.size, go⟩ := ⟨hs0, hce, hpi, hfr, ⟨hl1, hl2⟩, lt1, hgd, S.kind, hno, hAf, hrw.hd⟩
    refine ⟨N, qual, scope, f, cdv, HB, fun Yc Rc cs H2 s2 hst2 I2 => ?_⟩
    have lok : LocOk ⟨X, pins, s.heap.objs.size, N, qual, scope, f, cdv, Aw, s1.heap.objs.size, go⟩ Lo (start N vs) := by
      refine ⟨I1.len, hLd, m, fun h' e => ⟨Lo, es, ep, e, hd, rs⟩, fun i y v e1 e2 e3 => ?_⟩
      obtain ⟨u, q1, q2⟩ := hv i y v e1 e2 e3
      refine ⟨u, q1, ?_⟩
      rcases q2 with q2 | ⟨_, c, e, _⟩
      · exact q2
      · have e : (cellsFrom (s.heap.objs.size + 1) scope.names []).lookup y = some c := e
        rw [cells_nil hno] at e; cases e
    have R2 := Host.wake HB I2 lok (fun p hp => by cases hp)
    refine seg_func ?_
    refine hbody X pins s.heap.objs.size Aw s1.heap.objs.size go HB (fun s' H' hs' => ?_) Yc Rc [] sizeLine cs 0 s2 _ [] _ _ id id s2 (start N vs) H2 _ ⟨over_func, rfl, rfl, rfl⟩ (Nat.add_zero _) ⟨fun n cs' k' s₀ s' fl hn hs => ?_, fun n s₀ s3 H3 e s' h3 hx => ?_⟩ R2 hst2
    · rw [Host.F_A _ hs']
      exact hrw.deeper _
    · have fin : ∀ {σ' : St} {H' : Hp} {fl' : Flow}, (⟨X, pins, s.heap.objs.size, N, qual, scope, f, cdv, Aw, s1.heap.objs.size, go⟩ : Host).Run cs' [] σ' H' s' → Rc cs' H' → (⟨X, pins, s.heap.objs.size, N, qual, scope, f, cdv, Aw, s1.heap.objs.size, go⟩ : Host).R Rc n s₀ (.ok (.ret .none)) s' := fun {σ' H' fl'} r' q => by
        obtain ⟨Lo', J, _⟩ := Host.rest HB r'
        exact .inl ⟨.inl rfl, cs', H', Lo', [], J, q⟩
      cases fl with
      | next =>
        obtain ⟨σ', H', hI, hQ⟩ := hs
        exact seg_end (.ok (.ret .none)) (fin (fl' := .next) hI hQ)
      | brk => obtain ⟨_, _, _, q⟩ := hs; exact False.elim q
      | cont => obtain ⟨_, _, _, q⟩ := hs; exact False.elim q
      | ret u =>
        obtain ⟨v, σ', H', hI, rv, ev, hQ⟩ := hs
        subst ev
        have eu : u = Value.none := rv
        subst eu
        exact seg_end (.ok (.ret .none)) (fin (fl' := .next) hI hQ)
    · refine seg_wrap ?_
      rw [over_func]
      have hx : wpAny (model X.prog X.w) (Aw.deeper (envOfC qual scope s3.heap.objs.size f cdv)) (leaving (envOfC qual scope s3.heap.objs.size f cdv) e) (fun _ s'' => CX X.prog X.w X.stack H3 s3 E0 e s'' ∧ ∀ p ∈ [(s1.heap.objs.size, go)], s''.heap.get? p.1 = some p.2) (fun _ _ => False) s' := hx
      rw [show s3.heap.objs.size = s.heap.objs.size from h3] at hx
      refine wpAny_mono hx (fun _ s'' q => ?_) fun _ s'' q => q.elim
      obtain ⟨⟨_, _, _, _, _, _, _, _, _, _, _, _, z⟩, _⟩ := q
      exact False.elim z
  exact main _ _ _ _ rfl rfl rfl fun h => Heap.get?_push_size _ rfl
end L2

/-! Who walks a generator in turns: for statements and list comprehensions. -/
namespace L2
open PySem PySem.Spec PyProof.Rows GenW Calm
theorem Inv.gensTo {X : Cx} {pins : List (Addr × Obj)} {σ : St} {H : Hp} {s : Shared} {G : Array GenState} (I : Inv X pins σ H s) (h : AllBare G) : Inv X pins σ H { s with gens := G } :=
  ⟨I.ok, I.os, h, I.base, I.loc, I.cell, I.free, I.freeC, I.pin, I.hok, I.len⟩
/-- a step that does not touch who sleeps at g -/
def Sleeps (g : Nat) (gs : GenState) (s : Shared) : Prop := asleep gs = true → s.gens[g]? = some gs
theorem bare_mem {G : Array GenState} (h : AllBare G) {i : Nat} {x : GenState} (e : G[i]? = some x) : x.bare = true := h x (Array.mem_of_getElem? e)
theorem bare_of {G : Array GenState} (h : ∀ (i : Nat) x, G[i]? = some x → x.bare = true) : AllBare G := fun x hx => by
  obtain ⟨i, hi, e⟩ := Array.mem_iff_getElem.mp hx
  exact h i x (by rw [Array.getElem?_eq_getElem hi, e])
theorem dulled_bare {s : Shared} (h : AllBare s.gens) : AllBare (dulled s).gens := bare_of fun i x e => by
  rw [dulled_at] at e
  cases q : s.gens[i]? with
  | none => rw [q] at e; cases e
  | some y => rw [q] at e; cases e; rw [dull_bare]; exact bare_mem h q
theorem calm_step {α : Type} {M : Model} {A : Around} {s : Shared} {t : Sem α} {Q Q' : α → Shared → Prop} {E : Value → Shared → Prop} {g : Nat} {gs : GenState} (hb : AllBare s.gens) (hs : Sleeps g gs s)
    (h : wpAny M A t Q' (fun _ _ => False) (dulled s)) (hQ : ∀ x (b : Shared) (G : Array GenState), Q' x b → (AllBare b.gens → AllBare G) → Sleeps g gs { b with gens := G } → Q x { b with gens := G }) : wpAny M A t Q E s := by
  refine wpAny_calm h (fun x b G hx h1 h2 => hQ x b G hx (fun hb' => bare_of fun i y e => ?_) fun ha => h1 g gs (hs ha) ha) fun _ _ z => z
  rcases h2 i y e with q | q
  · exact bare_mem hb q
  · exact bare_mem hb' q
section
variable {B : Host}
def Host.Go (B : Host) (Yc : WY) (Rc : St → Hp → Prop) (g n : Nat) (s : Shared) : Prop :=
  s.heap.IsGen B.a g ∧ s.heap.NoLimit ∧ AllBare s.gens ∧ ∃ gs, s.gens[g]? = some gs ∧ gs.Goes (model B.X.prog B.X.w) B.A (B.R Rc) (B.Y Yc) n (.send .none) (s.setGen g .running)
theorem Host.turn {Yc : WY} {Rc : St → Hp → Prop} {g n : Nat} {s : Shared} {A : Around} {Q : Option Value → Shared → Prop} {E : Value → Shared → Prop} (hA : B.A = A.in1) (hh : A.handled = none) (hd : A.depth < recursionLimit)
    (hgen : ∀ h : Heap, h.get? B.a = some B.go → h.IsGen B.a g) (h : B.Go Yc Rc g n s)
    (hdone : ∀ c H Lo ip s', Inv B.X (B.pins ++ B.gp Lo ip) c H s' → Rc c H → Q none s')
    (hitem : ∀ c x v H Lo ip kk s' gs', RelV x v → Inv B.X (B.pins ++ B.gp Lo ip) c H s' → Yc c x H kk → s'.gens[g]? = some gs' →
      (∀ c' H' s'', kk c' H' → Inv B.X (B.pins ++ B.gp Lo ip) c' H' s'' → Sleeps g gs' s'' → ∃ m, m < n ∧ B.Go Yc Rc g m s'') → Q (some v) s') :
    wpAny (model B.X.prog B.X.w) A (pyNext (.ref B.a)) Q E s := by
  obtain ⟨hg, hl, hb, gs, hgs, hgo⟩ := h
  rw [hA] at hgo
  have hgl : g < s.gens.size := (Array.getElem?_eq_some_iff.mp hgs).1
  refine wpAny_gsz (n := g + 1) hgl (next_genG (A := A) hh hl hd hg hgs (F := fun _ _ s₁ => ∃ c H Lo ip, Inv B.X (B.pins ++ B.gp Lo ip) c H s₁ ∧ Rc c H) (Er := fun _ _ => False) (Y := B.Y Yc) hgo (fun v s₁ gs' hbare hv => ?_) (fun s₁ hp h' hk => ?_) fun e s₁ he => he.elim)
  · intro hsz
    obtain ⟨c, x, H, Lo, ip, kk, rv, I, hy, hk⟩ := hv
    have hsz' : g < s₁.gens.size := by
      have e : (s₁.setGen g gs').gens.size = s₁.gens.size := setGen_size s₁ g gs'
      omega
    refine hitem c x v H Lo ip kk _ gs' rv (I.gensTo (allBare_setGen I.bare hbare)) hy (L2.setGen_at hsz') fun c' H' s'' hc I'' hsl => ?_
    have I3 : Inv B.X (B.pins ++ B.gp Lo ip) c' H' (s''.setGen g .running) := I''.gensTo (allBare_setGen I''.bare rfl)
    obtain ⟨k1, k2⟩ := hk c' H' _ hc I3
    cases n with
    | zero => exact k1.elim
    | succ m =>
      have ha : asleep gs' = true := by
        cases gs' with
        | suspended => rfl
        | fresh c => exact absurd k2.1 (by intro z; cases z)
        | running => exact k2.elim
        | finished => exact k2.elim
      have hpin := (I''.pin (B.a, B.go) (List.mem_append_right _ (List.mem_append_right _ List.mem_cons_self))).1
      refine ⟨m, Nat.lt_succ_self m, hgen _ hpin, I''.nolimit, I''.bare, gs', hsl ha, ?_⟩
      rw [hA]
      exact k1
  · intro _
    obtain ⟨c, H, Lo, ip, I, q⟩ := hp
    have I2 := I.kept (t' := s₁.toks) hk
    exact hdone c H Lo ip _ ((I2.gensTo (G := (s₁.setGen g .finished).gens) (allBare_setGen I.bare rfl))) q
theorem Host.turnX {X : Cx} {pins : List (Addr × Obj)} {Yc : WY} {Rc : St → Hp → Prop} {g n : Nat} {s : Shared} {A : Around} {Q : Option Value → Shared → Prop} {E : Value → Shared → Prop} (eX : B.X = X) (ep : B.pins = pins) (hA : B.A = A.in1) (hh : A.handled = none) (hd : A.depth < recursionLimit)
    (hgen : ∀ h : Heap, h.get? B.a = some B.go → h.IsGen B.a g) (h : B.Go Yc Rc g n s)
    (hdone : ∀ c H Lo ip s', Inv X (pins ++ B.gp Lo ip) c H s' → Rc c H → Q none s')
    (hitem : ∀ c x v H Lo ip kk s' gs', RelV x v → Inv X (pins ++ B.gp Lo ip) c H s' → Yc c x H kk → s'.gens[g]? = some gs' →
      (∀ c' H' s'', kk c' H' → Inv X (pins ++ B.gp Lo ip) c' H' s'' → Sleeps g gs' s'' → ∃ m, m < n ∧ B.Go Yc Rc g m s'') → Q (some v) s') :
    wpAny (model X.prog X.w) A (pyNext (.ref B.a)) Q E s := by
  subst eX ep
  exact Host.turn hA hh hd hgen h hdone hitem
end
/-! ### the generator's expression -/
abbrev TGwe := St → Hp → (TStart → Hp → Prop) → Prop
structure PGw (X : Cx) (k : Nat) (e : Expr) (tg : TGwe) : Prop where
  run : ∀ (pins : List (Addr × Obj)) (s : Shared) (σ : St) (H : Hp) (cont : TStart → Hp → Prop), Inv X pins σ H s → tg σ H cont → wpAny (model X.prog X.w) X.A (eval e X.env)
    (fun u s' => ∃ H1 sc st, Inv X pins σ H1 sc ∧ GMadeW X.prog X.w X.K X.mg X.base k X.stack sc st u s' ∧ cont st H1) X.xe s
section
variable {X : Cx} {k : Nat} {f C : Addr} {fd : FuncData} {ps : List Str} {sp : SpW} {x m : Str} {p pos pos' apos : Pos} {o : Expr} {ta : TE}
theorem run_gfw {pins : List (Addr × Obj)} {σ : St} {H : Hp} {s : Shared} {us : List Value} {vs : List V} {cont : TStart → Hp → Prop} {E1 : Value → Shared → Prop} (F : GFw X.prog X.w X.K X.mg X.base k f fd ps sp) (hr : Room k X.A) (hb : Binds X.K fd ps [])
    (I : Inv X pins σ H s) (r : Vals vs us) (hl : vs.length = ps.length) (h : cont (sp vs) H) :
    wpAny (model X.prog X.w) X.A (call (.ref f) us) (fun u s' => ∃ H1 sc st, Inv X pins σ H1 sc ∧ GMadeW X.prog X.w X.K X.mg X.base k X.stack sc st u s' ∧ cont st H1) E1 s := by
  have hl2 : (us ++ ([] : List Value)).length = ps.length := by rw [List.append_nil, ← r.length]; exact hl
  refine wpAny_call (codeAny_mono (F.run X.A X.stack s H ⟨us, []⟩ (us ++ []) vs hr I.env0 (hb s us I.kIn hl2) (by rw [List.append_nil]; exact r) hl) fun r s' hq => ?_)
  cases r with
  | error e => exact False.elim hq
  | ok fl =>
    cases fl with
    | ret u => exact ⟨H, s, _, I, hq, h⟩
    | next => exact False.elim hq
    | brk => exact False.elim hq
    | cont => exact False.elim hq
def tMethW (C : Addr) (m : Str) (sp : SpW) (n : Nat) (ta : TE) (t : TA) : TGwe := fun σ H cont => ta σ H fun x H1 => ∃ a dx fs, x = .ref a ∧ H1 a = some (.ins C dx fs) ∧ fs.lookup m = none ∧
  t σ H1 fun vs H2 => vs.length + 1 = n ∧ cont (sp (x :: vs)) H2
theorem pgw_meth0 {n : Nat} {pl : Sem Bool} (he : PE X o ta) (c : Cls X.K C) (hm : Meth X.K C m f) (F : GFw X.prog X.w X.K X.mg X.base k f fd ps sp) (hr : Room k X.A) (hb : Binds X.K fd ps []) (hn : ps.length = n)
    (ht : eval (.Call (.Attribute o m apos) [] [] pos') X.env = (do
      let ov ← eval o X.env
      standAt apos.atName
      let (f, first) ← holding [ov] (getMethod ov m pl)
      callWith pos' f first (backTo pos' (starEach [] X.env)) (backToKw pos' (keywordEach [] X.env))) := by rfl) :
    PGw X k (.Call (.Attribute o m apos) [] [] pos') (tMethW C m sp n ta tNil) := by
  refine ⟨fun pins s σ H cont I h => ?_⟩
  refine PySem.W.methodCall_KW (pl := pl) (thn (he.run pins s σ H _ I h) fun u s1 ⟨x, H1, I1, rx, a, dx, fs, ex, ea, l, q1, q⟩ => ?_) ht
  subst ex
  obtain rfl : u = Value.ref a := rx
  refine getmeth_ok I1 ea c hm l ?_
  exact PySem.W.callWith_K0 (first := [.ref a]) I1.kIn hm.kp (run_gfw (us := [.ref a]) (vs := [.ref a]) F hr hb I1 (.cons rfl .nil) (by rw [hn]; exact q1) q)
theorem pgw_meth {n : Nat} {pl : Sem Bool} {e : Expr} {es : List Expr} {t : TA} (he : PE X o ta) (c : Cls X.K C) (hm : Meth X.K C m f) (F : GFw X.prog X.w X.K X.mg X.base k f fd ps sp) (hr : Room k X.A) (hb : Binds X.K fd ps []) (hn : ps.length = n) (ha : PA X (e :: es) t)
    (hst : starEach (e :: es) X.env = (false, eval e X.env) :: starEach es X.env := by rfl) (hpl : (backTo pos' (starEach es X.env)).any (·.1) = false := by rfl)
    (ht : eval (.Call (.Attribute o m apos) (e :: es) [] pos') X.env = (do
      let ov ← eval o X.env
      standAt apos.atName
      let (f, first) ← holding [ov] (getMethod ov m pl)
      callWith pos' f first (backTo pos' (starEach (e :: es) X.env)) (backToKw pos' (keywordEach [] X.env))) := by rfl) :
    PGw X k (.Call (.Attribute o m apos) (e :: es) [] pos') (tMethW C m sp n ta t) := by
  refine ⟨fun pins s σ H cont I h => ?_⟩
  refine PySem.W.methodCall_KW (pl := pl) (thn (he.run pins s σ H _ I h) fun u s1 ⟨x, H1, I1, rx, a, dx, fs, ex, ea, l, q⟩ => ?_) ht
  subst ex
  obtain rfl : u = Value.ref a := rx
  refine getmeth_ok I1 ea c hm l ?_
  refine PySem.W.callWith_K (first := [.ref a]) (h₀ := X.base) I.ok.mod.kin hm.kp (thn (ha.run pos' pins s1 σ H1 _ I1 q) fun us s2 ⟨vs, H2, I2, r, q1, q2⟩ => ⟨I2.kIn, ?_⟩) hst hpl
  exact run_gfw (us := .ref a :: us) (vs := .ref a :: vs) F hr hb I2 (.cons rfl r) (by rw [hn]; exact q1) q2
/-! ### for -/
def tForW (tg : TGwe) (g : TG) (tb : TS) : TS := fun D σ H => tg σ H fun st H1 => st (fun c x H k => g x c H fun c1 H2 => tb { D with nx := k, ct := k, bk := D.nx } c1 H2) (fun c H => D.nx c H) σ H1
theorem Inv.toNoxW {pins : List (Addr × Obj)} {σ : St} {H : Hp} {s : Shared} (I : Inv X pins σ H s) : Inv X.nox pins σ H s := I.wish _
theorem Inv.ofNoxW {pins : List (Addr × Obj)} {σ : St} {H : Hp} {s : Shared} (I : Inv X.nox pins σ H s) : Inv X pins σ H s := I.unwish
theorem pin_lt {pins : List (Addr × Obj)} {σ : St} {H : Hp} {s : Shared} (I : Inv X pins σ H s) : ∀ p ∈ X.pn ++ pins, p.1 < s.heap.objs.size := fun p hp => Heap.lt_size (I.pin p hp).1
theorem frs_lt {pins : List (Addr × Obj)} {σ : St} {H : Hp} {s : Shared} (I : Inv X pins σ H s) : ∀ b ∈ frs X.stack, b < s.heap.objs.size := fun b hb => by
  obtain ⟨_, o, ho, _⟩ := I.stack.mem hb
  exact Heap.lt_size ho
theorem cell_lt {pins : List (Addr × Obj)} {σ : St} {H : Hp} {s : Shared} (I : Inv X pins σ H s) : ∀ x c, X.env.cells.lookup x = some c → c < s.heap.objs.size := fun x c e => by
  obtain ⟨v, z⟩ := I.cell x c e
  exact z.lt
theorem young_pin {pins : List (Addr × Obj)} {σ : St} {H : Hp} {s : Shared} (I : Inv X pins σ H s) {b : Addr} (hb : s.heap.objs.size ≤ b) : H b = none ∧ b ≠ X.env.locals ∧ b ∉ X.fs :=
  ⟨I.hok.fresh hb, Nat.ne_of_gt (Nat.lt_of_lt_of_le I.lt hb), I.nofs hb⟩
/-- behind the generator's call -/
theorem Inv.madeW {pins : List (Addr × Obj)} {σ : St} {H : Hp} {sc s' : Shared} (I : Inv X pins σ H sc) (os : s'.os = sc.os) (hb : AllBare s'.gens) (k : ∀ b o, sc.heap.get? b = some o → s'.heap.get? b = some o) : Inv X pins σ H s' :=
  I.call' (ch := []) os (Un.kept k) (I.hok.kept k) hb fun b z => by simp at z
theorem ps_forW {tg iter : Expr} {body : List Stmt} {tgn : TGwe} {gt : TG} {tb : TS} {k : Nat} {pos : Pos} (hc : X.calm = true) (hr : Room (k + 1) X.A) (hp : PassesOwn (model X.prog X.w) X.A X.env X.xe) (hi : PGw X k iter tgn) (hg : PG X.nox tg gt) (hb : PSs X.nox body tb)
    (hs : ∀ x, foldedSetIterable iter X.env x = pure x := by intro _; rfl) : PS X (.For tg iter body [] pos) (tForW tgn gt tb) := by
  refine ⟨fun pins s σ H D I h => ?_⟩
  refine wpAny_For (thn (hi.run pins s σ H _ I h) fun u s1 ⟨H1, sc, st, Ic, GM, q⟩ => ?_) hs
  obtain ⟨a, g, cd, go, Lo, rfl, an, asz, ea, hgen, eL, hgd, hLd, hgs, hos, hba, hkp, hwalk⟩ := GM
  refine wpAny_pyIter_gen (hgen _ ea) ?_
  have I1 : Inv X pins σ H1 s1 := Ic.madeW hos hba hkp
  obtain ⟨BN, Bq, Bs, Bf, Bcd, HB, seg⟩ := hwalk X pins X.A.in1 rfl rfl rfl rfl rfl rfl Ic.sz (cell_lt Ic) (pin_lt Ic) (frs_lt Ic) (Nat.ne_of_lt Ic.lt) (Nat.ne_of_lt (Nat.lt_trans Ic.lt an)) Ic.ok.frames hr.in1
  clear hwalk
  have yn := young_pin Ic (Nat.le_refl _)
  have ya := young_pin Ic (Nat.le_of_lt an)
  generalize hB : (⟨X, pins, sc.heap.objs.size, BN, Bq, Bs, Bf, Bcd, X.A.in1, a, go⟩ : Host) = B at HB seg
  have eX : B.X = X := by rw [← hB]
  have ep : B.pins = pins := by rw [← hB]
  have eA : B.A = X.A.in1 := by rw [← hB]
  have ea' : B.a = a := by rw [← hB]
  have ego : B.go = go := by rw [← hB]
  have en : B.n = sc.heap.objs.size := by rw [← hB]
  have I2 : Inv X (pins ++ B.gp Lo []) σ H1 s1 := I1.pins_of fun p hp => by
    rcases List.mem_append.mp hp with z | z
    · exact I1.pin p (List.mem_append_right _ z)
    · rcases List.mem_cons.mp z with z | z
      · rw [z, ea', ego]; exact ⟨ea, ya.1, ya.2.1, ya.2.2, hgd⟩
      · rw [List.mem_singleton.mp z, en]; exact ⟨eL, yn.1, yn.2.1, yn.2.2, hLd⟩
  have go0 : B.Go (fun c x H k => gt x c H fun c1 H2 => tb { D with nx := k, ct := k, bk := D.nx } c1 H2) (fun c H => D.nx c H) g sizeLine s1 := by
    refine ⟨by rw [ea']; exact hgen _ ea, I1.nolimit, I1.bare, _, hgs, rfl, ?_⟩
    rw [eX, eA]
    exact seg _ _ σ H1 _ q (I2.gensTo (allBare_setGen I1.bare rfl))
  have hgen' : ∀ h : Heap, h.get? B.a = some B.go → h.IsGen B.a g := by rw [ea', ego]; exact hgen
  have hd : X.A.depth < recursionLimit := by have := hr.dp; omega
  rw [← ea']
  refine codeAny_forLoop_any (fun n s' => B.Go (fun c x H k => gt x c H fun c1 H2 => tb { D with nx := k, ct := k, bk := D.nx } c1 H2) (fun c H => D.nx c H) g n s') ?_ sizeLine go0
  intro n s2 hgo2
  refine Host.turnX eX ep eA (Ic.ok.hd hc) hd hgen' hgo2 (fun c H' Lo' ip s' I' q' => ?_) (fun c x v H' Lo' ip kk s' gs' rv I' hy hg' tie => ?_)
  · exact wpAny_execs_nil ⟨c, H', I'.unpinned, q'⟩
  · have pa := (I'.pin (B.a, B.go) (List.mem_append_right _ (List.mem_append_right _ List.mem_cons_self))).1
    obtain ⟨o, nm, qn, ho, hcl, hdt, _⟩ := hgen' s'.heap pa
    refine go_of ho hcl hdt (by decide) ?_
    refine calm_step (g := g) (gs := gs') I'.bare (fun _ => hg') (hg.run _ (dulled s') c H' x v _ (I'.toNoxW.gensTo (dulled_bare I'.bare)) rv hy) fun _ b G ⟨σ6, H6, I6, q6⟩ hG hS => ?_
    have I6' : Inv X (pins ++ B.gp Lo' ip) σ6 H6 { b with gens := G } := I6.ofNoxW.gensTo (hG I6.bare)
    refine calm_step (g := g) (gs := gs') I6'.bare hS (hb.run _ (dulled { b with gens := G }) σ6 H6 _ (I6'.toNoxW.gensTo (dulled_bare I6'.bare)) q6) fun f b7 G7 hsp hG7 hS7 => ?_
    cases f with
    | next =>
      obtain ⟨σ7, H7, I7, q7⟩ := hsp
      exact tie σ7 H7 _ q7 (I7.ofNoxW.gensTo (hG7 I7.bare)) hS7
    | cont =>
      obtain ⟨σ7, H7, I7, q7⟩ := hsp
      exact tie σ7 H7 _ q7 (I7.ofNoxW.gensTo (hG7 I7.bare)) hS7
    | brk =>
      obtain ⟨σ7, H7, I7, q7⟩ := hsp
      exact ⟨σ7, H7, (I7.ofNoxW.gensTo (hG7 I7.bare)).unpinned, q7⟩
    | ret v =>
      obtain ⟨x7, σ7, H7, I7, r7, q7⟩ := hsp
      exact ⟨x7, σ7, H7, (I7.ofNoxW.gensTo (hG7 I7.bare)).unpinned, r7, q7⟩
end
end L2

/-! List comprehensions over a generator that is walked in turns. -/
namespace L2
open PySem PySem.Spec PyProof.Rows GenW Calm
theorem funFrames_cut {n : Nat} {h base : Heap} : ∀ l : List Env, (∀ b ∈ frs l, b < n) → h.FunFrames base l → (cutH n h).FunFrames base l := by
  intro l
  induction l with
  | nil => exact fun _ _ => trivial
  | cons e r ih =>
    rintro hf ⟨hk, ⟨L, o, q1, q2, q3, q4⟩, hr⟩
    refine ⟨hk, ⟨L, o, q1, q2, ?_, q4⟩, ih (fun b hb => hf b ?_) hr⟩
    · rw [cutH_at (hf L (List.mem_filterMap.mpr ⟨e, List.mem_cons_self, q1⟩))]; exact q3
    · obtain ⟨e', m, q⟩ := List.mem_filterMap.mp hb
      exact List.mem_filterMap.mpr ⟨e', List.mem_cons_of_mem _ m, q⟩
abbrev Cx.cut (X : Cx) (n : Nat) : Cx := { X with s_0 := cutSh n X.s_0 }
theorem Inv.cut {X : Cx} {pins : List (Addr × Obj)} {σ : St} {H : Hp} {s : Shared} {n : Nat} (I : Inv X pins σ H s) (h1 : n ≤ X.s_0.heap.objs.size) (h2 : X.base.objs.size ≤ n) (h3 : ∀ b ∈ X.fs, b < n) (hex : X.ex = []) : Inv (X.cut n) pins σ H s := by
  have csz : (cutSh n X.s_0).heap.objs.size = n := cutH_size h1
  have noA : ∀ b : Addr, b ∉ X.ex := fun b hb => by rw [hex] at hb; cases hb
  refine ⟨⟨I.ok.mod, I.ok.kind, I.ok.glob, I.ok.blt, ?_, I.ok.inj, I.ok.has, fun x c hx e => ?_, I.ok.hd, I.ok.frames, I.ok.stk, I.ok.exf, fun b o e => ?_, ?_, I.ok.noex, I.ok.exfs, funFrames_cut _ h3 I.ok.funs, I.ok.frf⟩, I.os, I.bare, ?_, I.loc, I.cell, I.free, I.freeC, I.pin, I.hok, I.len⟩
  · show (cutSh n X.s_0).heap.objs.size ≤ _
    rw [csz]; exact Nat.le_trans h1 I.ok.above
  · show (cutSh n X.s_0).heap.objs.size ≤ _
    rw [csz]; exact Nat.le_trans h1 (I.ok.cab x c hx e)
  · obtain ⟨e1, e2⟩ := I.ok.bs b o e
    refine ⟨?_, e2⟩
    show (cutH n X.s_0.heap).get? b = _
    rw [cutH_at (Nat.lt_of_lt_of_le (Heap.lt_size e) h2)]
    exact e1
  · show _ ≤ (cutSh n X.s_0).heap.objs.size
    rw [csz]; exact h2
  · exact ⟨fun b o e q hb hx => I.base.keep b o (cutH_no e).2 q hb hx, fun b o e q hb hx => I.base.slot b o (cutH_no e).2 q hb hx, fun b o e q hx => I.base.free b o (cutH_no e).2 q hx, fun b o e hx => I.base.there b o (cutH_no e).2 hx, I.base.tups, I.base.frzs, I.base.tbls⟩
theorem cells_acc0 {names : List (Str × NameKind)} (h : ∀ y ∈ names, y.2 ≠ .cell) : ∀ (n : Nat) (acc : List (Str × Addr)), cellsFrom n names acc = acc := by
  induction names with
  | nil => intro n acc; rfl
  | cons y ys ih =>
    intro n acc
    have h1 := h y List.mem_cons_self
    have h2 := ih fun z hz => h z (List.mem_cons_of_mem _ hz)
    obtain ⟨x, k⟩ := y
    unfold cellsFrom
    cases k <;> first | exact absurd rfl h1 | exact h2 n acc
def tLcW (tgn : TGwe) (g : TG) (tt : TT) (te : TE) (vs : List Nat) : TE := fun σ H Q => tgn σ H fun st H1 => ∀ D, H1 D = none →
  st (fun c x H k => g x c H fun σ2 H2 => wipe σ2 vs = c ∧ tt σ2 H2 fun b H3 => if b = true then te σ2 H3 fun y H4 => ∃ acc, H4 D = some (.lst acc) ∧ acc.length < sizeLine ∧ k c (upd H4 D (.lst (acc ++ [y]))) else k c H3)
    (fun _ H => Q (.ref D) H) (wipe σ vs) (upd H1 D (.lst []))
section
variable {X : Cx}
theorem lc_coreW {pins : List (Addr × Obj)} {s : Shared} {σ : St} {H : Hp} {Q : VK} {elt tg iter : Expr} {ifs : List Expr} {scope : Scope} {own : List (Str × Nat)} {pos pos' : Pos} {tgn : TGwe} {gt : TG} {tt : TT} {te : TE} {k : Nat} {use : Option (Value → Sem Unit)} {Qf : Value → Shared → Prop}
    (hc : X.calm = true) (hr : Room (k + 1) X.A) (hN : X.N.Nodup) (I : Inv X pins σ H s) (hi : PGw X k iter tgn) (ok : BlkOk X.N X.env.scope scope own) (hnc : ∀ y ∈ scope.names, y.2 ≠ .cell)
    (hg : ∀ (s : Shared) (H : Hp) (C : Addr) (cl : List (Str × Addr)) (fp : List Addr), PG (X.blk s H scope (compEnvC scope cl C X.env) fp) tg gt) (ht : ∀ (s : Shared) (H : Hp) (C : Addr) (cl : List (Str × Addr)) (fp : List Addr), PTs (X.blk s H scope (compEnvC scope cl C X.env) fp) ifs tt)
    (he : ∀ (s : Shared) (H : Hp) (C : Addr) (cl : List (Str × Addr)) (fp : List Addr), PE (X.blk s H scope (compEnvC scope cl C X.env) fp) elt te) (hs : ∀ x, foldedSetIterable iter X.env x = pure x)
    (h : tLcW tgn gt tt te (own.map (·.2)) σ H Q)
    (hRR : ∀ D C s' m H', Inv X pins σ H' s' → Q (.ref D) H' → s'.heap.Ns C m → FpOk X pins H' C → compPost (model X.prog X.w) X.A X.xe use Qf (.ref D) C (.ok .next) s') :
    wpAny (model X.prog X.w) X.A (comprehension (.ListComp elt [⟨tg, iter, ifs, 0⟩] scope pos) scope X.env pos' (newList []) false (eval iter X.env) use) Qf X.xe s := by
  have hfree : ∀ y ∈ scope.names, y.2 = .free → ∃ c, X.env.cells.lookup y.1 = some c := fun y hy e => by
    rcases ok.free y hy e with k | k
    · exact I.ok.has _ (.inl k)
    · exact I.ok.has _ (.inr k)
  refine wpAny_comprehension_free (use := use) rfl hs (closure_ok hfree) ok.kind (fun y hy e => by rw [ok.uniq y hy, e])
    (thn (hi.run pins s σ H _ I h) fun u s1 ⟨H1, sc, st, Ic, GM, q⟩ => ?_)
  obtain ⟨a, g, cd, go, Lo, rfl, an, asz, ea, hgen, eL, hgd, hLd, hgs, hos, hba, hkp, hwalk⟩ := GM
  refine wpAny_pyIter_gen (hgen _ ea) ?_
  have I1 : Inv X pins σ H1 s1 := Ic.madeW hos hba hkp
  refine wpAny_newObj_type (newEnv_comp ?_) (by show 0 ≤ sizeLine; decide)
  generalize hD : s1.heap.objs.size = D
  have hDn : H1 D = none := I1.hok.fresh (Nat.le_of_eq hD)
  have q := q D hDn
  -- the new list
  generalize hs3 : ({ s1 with heap := s1.heap.push { cls := .type "list", data := .seq ([] : List Value).toArray } } : Shared) = s3
  have I3 : Inv X pins σ (upd H1 D (.lst [])) s3 := by
    rw [← hs3]
    refine I1.laid (t' := s1.toks) (fun b o e => Heap.get?_push_of_some _ e) (Nat.le_of_eq hD) ⟨Nat.zero_le _, [], 0, .nil, ?_⟩
    rw [← hD]
    exact Heap.get?_push_size _ rfl
  have h3 : s3.heap = s1.heap.push { cls := .type "list", data := .seq ([] : List Value).toArray } := by rw [← hs3]
  have I4 := block_start (fp := []) I3 ok hN (fun b hb => by cases hb)
  have sz3 : s3.heap.objs.size = s1.heap.objs.size + 1 := by rw [h3, Heap.size_push]
  have nle : sc.heap.objs.size ≤ s3.heap.objs.size := by
    have q1 : sc.heap.objs.size < s1.heap.objs.size := Nat.lt_trans an asz
    rw [sz3]; exact Nat.le_of_lt (Nat.lt_succ_of_lt q1)
  have hcl : ∀ x c, (compEnvC scope (cellsFrom (s3.heap.objs.size + 1) scope.names (cloFrom X.env.cells scope.names [])) s3.heap.objs.size X.env).cells.lookup x = some c → c < sc.heap.objs.size := fun x c e => by
    have e : (cellsFrom (s3.heap.objs.size + 1) scope.names (cloFrom X.env.cells scope.names [])).lookup x = some c := e
    rw [cells_acc0 hnc] at e
    rcases cloFrom_mem (PySem.mem_of_lookup e) with hm | ⟨z1, z2⟩
    · cases hm
    · obtain ⟨c', hc'⟩ := hfree _ z1 rfl
      rw [hc'] at z2
      cases z2
      exact cell_lt Ic _ _ hc'
  have pg := hg (cutSh sc.heap.objs.size s3) (upd H1 D (.lst [])) s3.heap.objs.size (cellsFrom (s3.heap.objs.size + 1) scope.names (cloFrom X.env.cells scope.names [])) []
  have pt := ht (cutSh sc.heap.objs.size s3) (upd H1 D (.lst [])) s3.heap.objs.size (cellsFrom (s3.heap.objs.size + 1) scope.names (cloFrom X.env.cells scope.names [])) []
  have pe := he (cutSh sc.heap.objs.size s3) (upd H1 D (.lst [])) s3.heap.objs.size (cellsFrom (s3.heap.objs.size + 1) scope.names (cloFrom X.env.cells scope.names [])) []
  show codeAny _ _ (.compStart (.ListComp elt [⟨tg, iter, ifs, 0⟩] scope pos) 0 (.ref a) (.ref D) (compEnvC scope (cellsFrom (s3.heap.objs.size + 1) scope.names (cloFrom X.env.cells scope.names [])) s3.heap.objs.size X.env)) (compPost (model X.prog X.w) X.A X.xe use Qf (.ref D) s3.heap.objs.size) { s3 with heap := pushCells (s3.heap.push { cls := .type "dict", data := .dict #[] }) scope.names }
  have aC : a < s3.heap.objs.size := by rw [sz3]; exact Nat.lt_succ_of_lt asz
  have nC : sc.heap.objs.size < s3.heap.objs.size := Nat.lt_trans an aC
  have I4c := I4.cut (n := sc.heap.objs.size) nle (Nat.le_trans Ic.ok.bsz Ic.sz) (frs_lt Ic) rfl
  generalize hce : compEnvC scope (cellsFrom (s3.heap.objs.size + 1) scope.names (cloFrom X.env.cells scope.names [])) s3.heap.objs.size X.env = ce at I4 I4c pg pt pe hcl ⊢
  have cL : ce.locals = s3.heap.objs.size := by subst hce; rfl
  generalize hH3 : upd H1 D (.lst []) = H3 at I3 I4 I4c pg pt pe q
  generalize hs4 : ({ s3 with heap := pushCells (s3.heap.push { cls := .type "dict", data := .dict #[] }) scope.names } : Shared) = s4 at I4 I4c ⊢
  have kp4 : ∀ b o, s1.heap.get? b = some o → s4.heap.get? b = some o := fun b o e => by
    rw [← hs4]
    refine pushCells_keeps _ _ _ _ (Heap.get?_push_of_some _ ?_)
    rw [h3]
    exact Heap.get?_push_of_some _ e
  have os4 : s4.gens = s1.gens := by rw [← hs4, ← hs3]
  obtain ⟨BN, Bq, Bs, Bf, Bcd, HB, seg⟩ := hwalk (X.blk (cutSh sc.heap.objs.size s3) H3 scope ce []) [] X.A.in1 rfl rfl rfl rfl rfl rfl
    (by show (cutSh sc.heap.objs.size s3).heap.objs.size ≤ _; rw [show (cutSh sc.heap.objs.size s3).heap.objs.size = sc.heap.objs.size from cutH_size nle]; exact Nat.le_refl _) hcl (fun p hp => absurd (show p ∈ ([] : List (Addr × Obj)) ++ [] from hp) (by simp)) (@frs_lt X pins σ H1 sc Ic)
    (by show ce.locals ≠ _; rw [cL]; exact Nat.ne_of_gt nC) (by show ce.locals ≠ _; rw [cL]; exact Nat.ne_of_gt aC) Ic.ok.frames hr.in1
  clear hwalk
  have yn := young_pin Ic (Nat.le_refl _)
  have ya := young_pin Ic (Nat.le_of_lt an)
  have stF : ∀ b, sc.heap.objs.size ≤ b → b ∉ frs X.stack := fun b hb hm => Nat.lt_irrefl _ (Nat.lt_of_lt_of_le (frs_lt Ic b hm) hb)
  have H3n : ∀ b, b ≠ D → H1 b = none → H3 b = none := fun b hb e => by rw [← hH3, upd_ne hb]; exact e
  have neD : ∀ b, b < s1.heap.objs.size → b ≠ D := fun b hb => by rw [← hD]; exact Nat.ne_of_lt hb
  generalize hB : (⟨X.blk (cutSh sc.heap.objs.size s3) H3 scope ce [], [], sc.heap.objs.size, BN, Bq, Bs, Bf, Bcd, X.A.in1, a, go⟩ : Host) = B at HB seg
  have eX : B.X = X.blk (cutSh sc.heap.objs.size s3) H3 scope ce [] := by rw [← hB]
  have ep : B.pins = [] := by rw [← hB]
  have eA : B.A = X.A.in1 := by rw [← hB]
  have ea' : B.a = a := by rw [← hB]
  have ego : B.go = go := by rw [← hB]
  have en : B.n = sc.heap.objs.size := by rw [← hB]
  have I5 : Inv (X.blk (cutSh sc.heap.objs.size s3) H3 scope ce []) ([] ++ B.gp Lo []) (wipe σ (own.map (·.2))) H3 s4 := I4c.pins_of fun p hp => by
    have hp : p ∈ B.gp Lo [] := hp
    rcases List.mem_cons.mp hp with z | z
    · rw [z, ea', ego]
      exact ⟨kp4 _ _ ea, H3n _ (neD _ asz) ya.1, by show a ≠ ce.locals; rw [cL]; exact Nat.ne_of_lt aC, stF _ (Nat.le_of_lt an), hgd⟩
    · rw [List.mem_singleton.mp z, en]
      exact ⟨kp4 _ _ eL, H3n _ (neD _ (Nat.lt_trans an asz)) yn.1, by show sc.heap.objs.size ≠ ce.locals; rw [cL]; exact Nat.ne_of_lt nC, stF _ (Nat.le_refl _), hLd⟩
  have go0 : B.Go (fun c x H k => gt x c H fun σ2 H2 => wipe σ2 (own.map (·.2)) = c ∧ tt σ2 H2 fun b H3 => if b = true then te σ2 H3 fun y H4 => ∃ acc, H4 D = some (.lst acc) ∧ acc.length < sizeLine ∧ k c (upd H4 D (.lst (acc ++ [y]))) else k c H3)
      (fun _ H => Q (.ref D) H) g sizeLine s4 := by
    refine ⟨by rw [ea']; exact hgen _ (kp4 _ _ ea), I5.nolimit, I5.bare, _, (show s4.gens[g]? = some (.fresh cd) by rw [os4]; exact hgs), rfl, ?_⟩
    rw [eX, eA]
    exact seg _ _ _ H3 _ q (I5.gensTo (allBare_setGen I5.bare rfl))
  have hgen' : ∀ h : Heap, h.get? B.a = some B.go → h.IsGen B.a g := by rw [ea', ego]; exact hgen
  have hd : X.A.depth < recursionLimit := by have := hr.dp; omega
  rw [← ea']
  have loop : codeAny (model X.prog X.w) X.A (.compLoop (.ListComp elt [⟨tg, iter, ifs, 0⟩] scope pos) 0 (.ref B.a) (.ref D) ce) (compPost (model X.prog X.w) X.A X.xe use Qf (.ref D) s3.heap.objs.size) s4 := by
    refine compLoop_any (fun n s' => B.Go (fun c x H k => gt x c H fun σ2 H2 => wipe σ2 (own.map (·.2)) = c ∧ tt σ2 H2 fun b H3 => if b = true then te σ2 H3 fun y H4 => ∃ acc, H4 D = some (.lst acc) ∧ acc.length < sizeLine ∧ k c (upd H4 D (.lst (acc ++ [y]))) else k c H3)
      (fun _ H => Q (.ref D) H) g n s') ?_ sizeLine go0
    intro n s2 hgo2
    refine Host.turnX (X := X.blk (cutSh sc.heap.objs.size s3) H3 scope ce []) eX ep eA (Ic.ok.hd hc) hd hgen' hgo2 (fun c H' Lo' ip s' I' q' => ?_) (fun c x v H' Lo' ip kk s' gs' rv I' hy hg' tie => ?_)
    · -- back in the def's context
      have I6 : Inv X pins σ H' s' := by
        refine I3.call' (ch := List.range' sc.heap.objs.size (s3.heap.objs.size - sc.heap.objs.size)) I'.os ?_ I'.hok I'.bare fun b hb => ?_
        · have u : Un (frs X.stack) [] H3 H' (cutH sc.heap.objs.size s3.heap) s'.heap := I'.base
          have lo : ∀ b o, s3.heap.get? b = some o → b ∉ List.range' sc.heap.objs.size (s3.heap.objs.size - sc.heap.objs.size) → b < sc.heap.objs.size := fun b o e hx => by
            refine Nat.lt_of_not_le fun z => hx (List.mem_range'_1.mpr ⟨z, ?_⟩)
            rw [Nat.add_sub_cancel' nle]
            exact Heap.lt_size e
          exact ⟨fun b o e n hf hx => u.keep b o (by rw [cutH_at (lo b o e hx)]; exact e) n hf (by simp), fun b o e n hf hx => u.slot b o (by rw [cutH_at (lo b o e hx)]; exact e) n hf (by simp),
            fun b o e n hx => u.free b o (by rw [cutH_at (lo b o e hx)]; exact e) n (by simp), fun b o e hx => u.there b o (by rw [cutH_at (lo b o e hx)]; exact e) (by simp), u.tups, u.frzs, u.tbls⟩
        · have hn : sc.heap.objs.size ≤ b := (List.mem_range'_1.mp hb).1
          refine ⟨.inr (Nat.le_trans Ic.sz hn), Nat.ne_of_gt (Nat.lt_of_lt_of_le Ic.lt hn), fun x c e z => ?_, fun p hp z => ?_⟩
          · have := cell_lt Ic x c e
            rw [z] at this
            exact Nat.lt_irrefl _ (Nat.lt_of_lt_of_le this hn)
          · have := pin_lt Ic p hp
            rw [z] at this
            exact Nat.lt_irrefl _ (Nat.lt_of_lt_of_le this hn)
      have nn : H' s3.heap.objs.size = none := by
        have z : H' ce.locals = none := I'.free
        rw [cL] at z
        exact z
      obtain ⟨m, hn, _⟩ := I'.loc
      have hn : s'.heap.Ns ce.locals m := hn
      rw [cL] at hn
      exact hRR D s3.heap.objs.size s' m H' I6 q' hn (I3.fpOk (Nat.le_refl _) nn)
    · have pa := (I'.pin (B.a, B.go) (List.mem_append_right _ (List.mem_append_right _ List.mem_cons_self))).1
      obtain ⟨o, nm, qn, ho, hcl', hdt, _⟩ := hgen' s'.heap pa
      refine go_of ho hcl' hdt (by decide) ?_
      refine calm_step (g := g) (gs := gs') I'.bare (fun _ => hg') (pg.run _ (dulled s') c H' x v _ (I'.gensTo (dulled_bare I'.bare)) rv hy) fun _ b8 G8 ⟨σ8, H8, I8, hw8, q8⟩ hG8 hS8 => ?_
      have I8 := I8.gensTo (hG8 I8.bare)
      refine calm_step (g := g) (gs := gs') I8.bare hS8 (pt.run _ (dulled { b8 with gens := G8 }) σ8 H8 _ (I8.gensTo (dulled_bare I8.bare)) q8) fun b b9 G9 ⟨H9, I9, q9⟩ hG9 hS9 => ?_
      have I9 := I9.gensTo (hG9 I9.bare)
      have fin : ∀ {H' : Hp} {s' : Shared}, Inv (X.blk (cutSh sc.heap.objs.size s3) H3 scope ce []) ([] ++ B.gp Lo' ip) σ8 H' s' → kk c H' → Sleeps g gs' s' → ∃ m, m < n ∧ B.Go (fun c x H k => gt x c H fun σ2 H2 => wipe σ2 (own.map (·.2)) = c ∧ tt σ2 H2 fun b H3 => if b = true then te σ2 H3 fun y H4 => ∃ acc, H4 D = some (.lst acc) ∧ acc.length < sizeLine ∧ k c (upd H4 D (.lst (acc ++ [y]))) else k c H3)
          (fun _ H => Q (.ref D) H) g m s' := fun {H' s'} I0 k0 s0 => by
        refine tie c H' s' k0 (I0.weak (by rw [← hw8, wipe_length]) fun j v e => ?_) s0
        rw [← hw8] at e
        exact (wipe_some e).1
      cases b with
      | false =>
        simp only [Bool.false_eq_true, if_false] at q9 ⊢
        exact fin I9 q9 hS9
      | true =>
        simp only [if_true] at q9 ⊢
        refine calm_step (g := g) (gs := gs') I9.bare hS9 (pe.run _ (dulled { b9 with gens := G9 }) σ8 H9 _ (I9.gensTo (dulled_bare I9.bare)) q9) fun z b10 G10 ⟨yv, H10, I10, r10, acc, hD10, hz10, nx⟩ hG10 hS10 => ?_
        have I10 := I10.gensTo (hG10 I10.bare)
        refine calm_step (g := g) (gs := gs') I10.bare hS10 (app_ok (X := X.blk (cutSh sc.heap.objs.size s3) H3 scope ce []) (Q := fun _ s' => Inv (X.blk (cutSh sc.heap.objs.size s3) H3 scope ce []) ([] ++ B.gp Lo' ip) σ8 (upd H10 D (.lst (acc ++ [yv]))) s') (I10.gensTo (dulled_bare I10.bare)) hD10 hz10 r10 fun s11 I11 => I11) fun _ b11 G11 I11 hG11 hS11 => ?_
        exact fin (I11.gensTo (hG11 I11.bare)) nx hS11
  refine codeAny_compStart_list loop (wpAny_pyIter_gen (hgen' _ ?_) loop)
  rw [ea', ego]
  exact kp4 _ _ ea
/-- as a value -/
theorem pe_lcW {elt tg iter : Expr} {ifs : List Expr} {scope : Scope} {own : List (Str × Nat)} {pos : Pos} {tgn : TGwe} {gt : TG} {tt : TT} {te : TE} {k : Nat} (hc : X.calm = true) (hr : Room (k + 1) X.A) (hN : X.N.Nodup) (hi : PGw X k iter tgn) (ok : BlkOk X.N X.env.scope scope own) (hnc : ∀ y ∈ scope.names, y.2 ≠ .cell)
    (hg : ∀ (s : Shared) (H : Hp) (C : Addr) (cl : List (Str × Addr)) (fp : List Addr), PG (X.blk s H scope (compEnvC scope cl C X.env) fp) tg gt) (ht : ∀ (s : Shared) (H : Hp) (C : Addr) (cl : List (Str × Addr)) (fp : List Addr), PTs (X.blk s H scope (compEnvC scope cl C X.env) fp) ifs tt)
    (he : ∀ (s : Shared) (H : Hp) (C : Addr) (cl : List (Str × Addr)) (fp : List Addr), PE (X.blk s H scope (compEnvC scope cl C X.env) fp) elt te) (hs : ∀ x, foldedSetIterable iter X.env x = pure x := by intro _; rfl) :
    PE X (.ListComp elt [⟨tg, iter, ifs, 0⟩] scope pos) (tLcW tgn gt tt te (own.map (·.2))) := by
  refine ⟨fun pins s σ H Q I h => ?_⟩
  rw [eval_ListComp]
  refine lc_coreW hc hr hN I hi ok hnc hg ht he hs h fun D C s' m H' I' q hn f => ⟨m, hn, fun h'' sb => ?_⟩
  obtain ⟨f0, f1, f2, f3, f4, f5⟩ := f
  exact ⟨.ref D, H', I'.turned (t' := s'.toks) (fun b o hb e => (sb.2 b hb).trans e) f0 f1 f3 f4 f5, rfl, q⟩
end
end L2
namespace L2
open PySem PySem.Spec PyProof.Rows GenW
/-- a generator def's promise to those who walk it in turns -/
theorem FunD.okGenW {P : Program} {w : World} {mg : Str → Option Value} {base : Heap} {K : PySem.W.Frag} {x qual : Str} {params : Arguments} {body : List Stmt} {scope : Scope} {dvs : List V} {kws : List (Str × V)} {f : Addr} {fd : FuncData}
    {N ps : List Str} {k : Nat} {t : TGw} (F : FunD K x qual params body scope dvs kws f fd) (S : GScope N ps scope) (hno : ∀ y ∈ scope.names, y.2 ≠ .cell ∧ y.2 ≠ .free)
    (hbody : ∀ (cdv : Value) (X : Cx) (pins : List (Addr × Obj)) (n : Nat) (A : Around) (a : Addr) (go : Obj), HostOk ⟨X.re P w K mg base, pins, n, N, qual, scope, f, cdv, A, a, go⟩ → (∀ (s : Shared) (H : Hp), s.heap.objs.size = n → Room k ((⟨X.re P w K mg base, pins, n, N, qual, scope, f, cdv, A, a, go⟩ : Host).F s H).A) →
      GSsw ⟨X.re P w K mg base, pins, n, N, qual, scope, f, cdv, A, a, go⟩ body t) : GFw P w K mg base (k + 1) f fd ps (spW t N) := by
  obtain ⟨oc, od, dV, kV, doc, pm, an, cdv, ct, osl, rfl, lk, hcd, _, _⟩ := F.ex
  exact gfw_of lk hcd S hno fun X pins n A a go => hbody cdv X pins n A a go
end L2

namespace Lw
open PySem PySem.Spec PyProof.Rows L2
def top (i : Nat) : Stmt := PySem.Challenge.pw_risensigns_k16_machine_reads.main.body.getD i (.Pass ⟨0, 0, 0, 0⟩)
abbrev PROG : Program := PySem.Challenge.pw_risensigns_k16_machine_reads
abbrev s_law_pool : Stmt := top 19
abbrev s_law_pick : Stmt := top 20
abbrev s_law_alphabet : Stmt := top 21
abbrev s_law_machine_of : Stmt := top 28
abbrev s_Machine_init : Stmt := inClass (top 17) 0
abbrev s_Machine_last : Stmt := inClass (top 17) 2
abbrev s_law_is_int : Stmt := top 22
abbrev s_Machine_states : Stmt := inClass (top 17) 1
abbrev s_Machine_edges : Stmt := inClass (top 17) 3
abbrev s_law_unique : Stmt := top 30
abbrev s_Machine_free : Stmt := inClass (top 17) 4
abbrev s_law_fine : Stmt := top 34
abbrev s_law_spread : Stmt := top 24
abbrev s_law_graph_of : Stmt := top 23
abbrev s_law_walk_on : Stmt := top 31
abbrev s_as_string : Stmt := top 10
abbrev s_check_text : Stmt := top 11
abbrev s_Row_init : Stmt := inClass (top 13) 0
abbrev s_law_as_row : Stmt := top 26
abbrev s_reached : Stmt := top 15
abbrev s_Machine_spread : Stmt := inClass (top 17) 5
abbrev s_Row_iter : Stmt := inClass (top 13) 4
abbrev s_Machine_ends : Stmt := inClass (top 17) 6
abbrev s_law_join : Stmt := top 29
abbrev s_law_read : Stmt := top 25
abbrev s_law_odd_sign : Stmt := top 27
abbrev s_Machine_contains : Stmt := inClass (top 17) 7
abbrev s_Row_signs : Stmt := inClass (top 13) 1
abbrev s_law_meets : Stmt := top 33
abbrev s_law_spelling : Stmt := top 32
abbrev s_law : Stmt := top 35
abbrev s_BadSign_init : Stmt := inClass (top 3) 0
abbrev s_Uneven_init : Stmt := inClass (top 4) 0
abbrev s_BadHeight_init : Stmt := inClass (top 5) 0
structure Txt (P : Program) (K : Frg) (mg : Str → Option Value) : Prop where
  f_abs : mg "abs" = none
  f_int : mg "int" = none
  f_range : mg "range" = none
  F_law_pool : ∃ fd, FunD K "_law_pool" "_law_pool" (defArgs s_law_pool) (defBody s_law_pool) (defScope s_law_pool) [] [] (Rz.pG "_law_pool" K) fd
  g__law_pool : mg "_law_pool" = some (.ref (He.ga K "_law_pool"))
  F_law_pick : ∃ fd, FunD K "_law_pick" "_law_pick" (defArgs s_law_pick) (defBody s_law_pick) (defScope s_law_pick) [] [] (Rz.pG "_law_pick" K) fd
  f_len : mg "len" = none
  g__law_pick : mg "_law_pick" = some (.ref (He.ga K "_law_pick"))
  F_law_alphabet : ∃ fd, FunD K "_law_alphabet" "_law_alphabet" (defArgs s_law_alphabet) (defBody s_law_alphabet) (defScope s_law_alphabet) [] [] (Rz.pG "_law_alphabet" K) fd
  g__law_alphabet : mg "_law_alphabet" = some (.ref (He.ga K "_law_alphabet"))
  F_law_machine_of : ∃ fd, FunD K "_law_machine_of" "_law_machine_of" (defArgs s_law_machine_of) (defBody s_law_machine_of) (defScope s_law_machine_of) [] [] (Rz.pG "_law_machine_of" K) fd
  g__law_machine_of : mg "_law_machine_of" = some (.ref (He.ga K "_law_machine_of"))
  f_list : mg "list" = none
  n_Machine_many : NoAttr K (He.ga K "Machine") "many"
  c_Machine : Cls K (He.ga K "Machine")
  f_sorted : mg "sorted" = none
  f_set : mg "set" = none
  n_Machine_finals : NoAttr K (He.ga K "Machine") "finals"
  n_Machine_arcs : NoAttr K (He.ga K "Machine") "arcs"
  n_Machine_leads : NoAttr K (He.ga K "Machine") "leads"
  n_Machine_outs : NoAttr K (He.ga K "Machine") "outs"
  n_Machine_onward : NoAttr K (He.ga K "Machine") "onward"
  F_Machine_init : ∃ fd, FunD K "__init__" "Machine.__init__" (defArgs s_Machine_init) (defBody s_Machine_init) (defScope s_Machine_init) [] [] (Rz.pM "Machine" "__init__" K) fd
  mk_Machine : Mk K (He.ga K "Machine") (Rz.pM "Machine" "__init__" K)
  g_Machine : mg "Machine" = some (.ref (He.ga K "Machine"))
  F_Machine_last : ∃ fd, FunD K "last" "Machine.last" (defArgs s_Machine_last) (defBody s_Machine_last) (defScope s_Machine_last) [] [] (Rz.pP "Machine" "last" K) fd
  p_Machine_last : PropOf K (He.ga K "Machine") "last" (Rz.recAt "Machine" "last" K) (Rz.pP "Machine" "last" K)
  ty_Row : C8.InsC K (He.ga K "Row")
  i_Row_str : PySem.W.kitOne K (.ref (He.ga K "Row")) (.type "str") = some false
  f_isinstance : mg "isinstance" = none
  f_bool : mg "bool" = none
  F_law_is_int : ∃ fd, FunD K "_law_is_int" "_law_is_int" (defArgs s_law_is_int) (defBody s_law_is_int) (defScope s_law_is_int) [] [] (Rz.pG "_law_is_int" K) fd
  F_Machine_states : ∃ fd, FunD K "states" "Machine.states" (defArgs s_Machine_states) (defBody s_Machine_states) (defScope s_Machine_states) [] [] (Rz.pP "Machine" "states" K) fd
  p_Machine_states : PropOf K (He.ga K "Machine") "states" (Rz.recAt "Machine" "states" K) (Rz.pP "Machine" "states" K)
  g__law_is_int : mg "_law_is_int" = some (.ref (He.ga K "_law_is_int"))
  F_Machine_edges : ∃ fd, FunD K "edges" "Machine.edges" (defArgs s_Machine_edges) (defBody s_Machine_edges) (defScope s_Machine_edges) [] [] (Rz.pM "Machine" "edges" K) fd
  m_Machine_edges : Meth K (He.ga K "Machine") "edges" (Rz.pM "Machine" "edges" K)
  F_law_unique : ∃ fd, FunD K "_law_unique" "_law_unique" (defArgs s_law_unique) (defBody s_law_unique) (defScope s_law_unique) [] [] (Rz.pG "_law_unique" K) fd
  g__law_unique : mg "_law_unique" = some (.ref (He.ga K "_law_unique"))
  F_Machine_free : ∃ fd, FunD K "free" "Machine.free" (defArgs s_Machine_free) (defBody s_Machine_free) (defScope s_Machine_free) [] [] (Rz.pM "Machine" "free" K) fd
  m_Machine_free : Meth K (He.ga K "Machine") "free" (Rz.pM "Machine" "free" K)
  f_tuple : mg "tuple" = none
  f_str : mg "str" = none
  F_law_fine : ∃ fd, FunD K "_law_fine" "_law_fine" (defArgs s_law_fine) (defBody s_law_fine) (defScope s_law_fine) [] [] (Rz.pG "_law_fine" K) fd
  g__law_fine : mg "_law_fine" = some (.ref (He.ga K "_law_fine"))
  F_law_spread : ∃ fd, FunD K "_law_spread" "_law_spread" (defArgs s_law_spread) (defBody s_law_spread) (defScope s_law_spread) [] [] (Rz.pG "_law_spread" K) fd
  g__law_spread : mg "_law_spread" = some (.ref (He.ga K "_law_spread"))
  F_law_graph_of : ∃ fd, FunD K "_law_graph_of" "_law_graph_of" (defArgs s_law_graph_of) (defBody s_law_graph_of) (defScope s_law_graph_of) [] [] (Rz.pG "_law_graph_of" K) fd
  g__law_graph_of : mg "_law_graph_of" = some (.ref (He.ga K "_law_graph_of"))
  F_law_walk_on : ∃ fd, FunD K "_law_walk_on" "_law_walk_on" (defArgs s_law_walk_on) (defBody s_law_walk_on) (defScope s_law_walk_on) [] [] (Rz.pG "_law_walk_on" K) fd
  g__law_walk_on : mg "_law_walk_on" = some (.ref (He.ga K "_law_walk_on"))
  f_bytes : mg "bytes" = none
  F_as_string : ∃ fd, FunD K "as_string" "as_string" (defArgs s_as_string) (defBody s_as_string) (defScope s_as_string) [] [] (Rz.pG "as_string" K) fd
  g_as_string : mg "as_string" = some (.ref (He.ga K "as_string"))
  f_enumerate : mg "enumerate" = none
  k_SIGNS : ∃ t, mg "SIGNS" = some (.str "abcdefghijklmnopqrstuvwxyz" t)
  xb_BadSign : Rz.ExC K (He.ga K "BadSign") ∧ XfC K (He.ga K "BadSign")
  n_BadSign_at : NoAttr K (He.ga K "BadSign") "at"
  x_BadSign : Rz.ExOne P K (He.ga K "BadSign") "at"
  f_super : mg "super" = none
  g_BadSign : mg "BadSign" = some (.ref (He.ga K "BadSign"))
  F_check_text : ∃ fd, FunD K "check_text" "check_text" (defArgs s_check_text) (defBody s_check_text) (defScope s_check_text) [] [] (Rz.pG "check_text" K) fd
  g_check_text : mg "check_text" = some (.ref (He.ga K "check_text"))
  xb_Uneven : Rz.ExC K (He.ga K "Uneven") ∧ XfC K (He.ga K "Uneven")
  x_Uneven : Rz.ExZero P K (He.ga K "Uneven")
  g_Uneven : mg "Uneven" = some (.ref (He.ga K "Uneven"))
  k_TOP : ∃ t, mg "TOP" = some (.int 9 t)
  xb_BadHeight : Rz.ExC K (He.ga K "BadHeight") ∧ XfC K (He.ga K "BadHeight")
  n_BadHeight_height : NoAttr K (He.ga K "BadHeight") "height"
  x_BadHeight : Rz.ExOne P K (He.ga K "BadHeight") "height"
  g_BadHeight : mg "BadHeight" = some (.ref (He.ga K "BadHeight"))
  f_zip : mg "zip" = none
  n_Row_pairs : NoAttr K (He.ga K "Row") "pairs"
  c_Row : Cls K (He.ga K "Row")
  F_Row_init : ∃ fd, FunD K "__init__" "Row.__init__" (defArgs s_Row_init) (defBody s_Row_init) (defScope s_Row_init) [.str "", .non] [] (Rz.pM "Row" "__init__" K) fd
  mk_Row : Mk K (He.ga K "Row") (Rz.pM "Row" "__init__" K)
  g_Row : mg "Row" = some (.ref (He.ga K "Row"))
  F_law_as_row : ∃ fd, FunD K "_law_as_row" "_law_as_row" (defArgs s_law_as_row) (defBody s_law_as_row) (defScope s_law_as_row) [] [] (Rz.pG "_law_as_row" K) fd
  g__law_as_row : mg "_law_as_row" = some (.ref (He.ga K "_law_as_row"))
  F_reached : ∃ fd, FunD K "reached" "reached" (defArgs s_reached) (defBody s_reached) (defScope s_reached) [] [] (Rz.pG "reached" K) fd
  g_reached : mg "reached" = some (.ref (He.ga K "reached"))
  F_Machine_spread : ∃ fd, FunD K "spread" "Machine.spread" (defArgs s_Machine_spread) (defBody s_Machine_spread) (defScope s_Machine_spread) [] [] (Rz.pM "Machine" "spread" K) fd
  m_Machine_spread : Meth K (He.ga K "Machine") "spread" (Rz.pM "Machine" "spread" K)
  f_iter : mg "iter" = none
  F_Row_iter : ∃ fd, FunD K "__iter__" "Row.__iter__" (defArgs s_Row_iter) (defBody s_Row_iter) (defScope s_Row_iter) [] [] (Rz.pM "Row" "__iter__" K) fd
  m_Row___iter__ : Meth K (He.ga K "Row") "__iter__" (Rz.pM "Row" "__iter__" K)
  F_Machine_ends : ∃ fd, FunD K "ends" "Machine.ends" (defArgs s_Machine_ends) (defBody s_Machine_ends) (defScope s_Machine_ends) [] [] (Rz.pM "Machine" "ends" K) fd
  m_Machine_ends : Meth K (He.ga K "Machine") "ends" (Rz.pM "Machine" "ends" K)
  F_law_join : ∃ fd, FunD K "_law_join" "_law_join" (defArgs s_law_join) (defBody s_law_join) (defScope s_law_join) [] [] (Rz.pG "_law_join" K) fd
  g__law_join : mg "_law_join" = some (.ref (He.ga K "_law_join"))
  F_law_read : ∃ fd, FunD K "_law_read" "_law_read" (defArgs s_law_read) (defBody s_law_read) (defScope s_law_read) [] [] (Rz.pG "_law_read" K) fd
  g__law_read : mg "_law_read" = some (.ref (He.ga K "_law_read"))
  F_law_odd_sign : ∃ fd, FunD K "_law_odd_sign" "_law_odd_sign" (defArgs s_law_odd_sign) (defBody s_law_odd_sign) (defScope s_law_odd_sign) [] [] (Rz.pG "_law_odd_sign" K) fd
  g__law_odd_sign : mg "_law_odd_sign" = some (.ref (He.ga K "_law_odd_sign"))
  f_any : mg "any" = none
  F_Machine_contains : ∃ fd, FunD K "__contains__" "Machine.__contains__" (defArgs s_Machine_contains) (defBody s_Machine_contains) (defScope s_Machine_contains) [] [] (Rz.pM "Machine" "__contains__" K) fd
  m_Machine___contains__ : Meth K (He.ga K "Machine") "__contains__" (Rz.pM "Machine" "__contains__" K)
  F_Row_signs : ∃ fd, FunD K "signs" "Row.signs" (defArgs s_Row_signs) (defBody s_Row_signs) (defScope s_Row_signs) [] [] (Rz.pP "Row" "signs" K) fd
  p_Row_signs : PropOf K (He.ga K "Row") "signs" (Rz.recAt "Row" "signs" K) (Rz.pP "Row" "signs" K)
  F_law_meets : ∃ fd, FunD K "_law_meets" "_law_meets" (defArgs s_law_meets) (defBody s_law_meets) (defScope s_law_meets) [] [] (Rz.pG "_law_meets" K) fd
  F_law_spelling : ∃ fd, FunD K "_law_spelling" "_law_spelling" (defArgs s_law_spelling) (defBody s_law_spelling) (defScope s_law_spelling) [] [] (Rz.pG "_law_spelling" K) fd
  g__law_spelling : mg "_law_spelling" = some (.ref (He.ga K "_law_spelling"))
  g__law_meets : mg "_law_meets" = some (.ref (He.ga K "_law_meets"))
  F_law : ∃ fd, FunD K "law" "law" (defArgs s_law) (defBody s_law) (defScope s_law) [] [] (Rz.pG "law" K) fd
  g_law : mg "law" = some (.ref (He.ga K "law"))
def fa0 : List (Rz.Fg → Bool) := [
  fun K => (He.Fa.free "abs").ok K,
  fun K => (He.Fa.free "int").ok K,
  fun K => (He.Fa.free "range").ok K,
  fun K => (He.Fa.glo "_law_pool").ok K,
  fun K => (He.Fa.free "len").ok K,
  fun K => (He.Fa.glo "_law_pick").ok K,
  fun K => (He.Fa.glo "_law_alphabet").ok K,
  fun K => (He.Fa.glo "_law_machine_of").ok K,
  fun K => (He.Fa.free "list").ok K,
  fun K => (He.Fa.noat "Machine" "many").ok K,
  fun K => (He.Fa.cls "Machine").ok K,
  fun K => (He.Fa.free "sorted").ok K,
  fun K => (He.Fa.free "set").ok K,
  fun K => (He.Fa.noat "Machine" "finals").ok K,
  fun K => (He.Fa.noat "Machine" "arcs").ok K,
  fun K => (He.Fa.noat "Machine" "leads").ok K,
  fun K => (He.Fa.noat "Machine" "outs").ok K,
  fun K => (He.Fa.noat "Machine" "onward").ok K,
  fun K => (He.Fa.mkr "Machine").ok K,
  fun K => (He.Fa.glo "Machine").ok K,
  Rz.propB "Machine" "last",
  Rz.tyB "Row",
  Rz.kitCT "Row" "str" false,
  fun K => (He.Fa.free "isinstance").ok K,
  fun K => (He.Fa.free "bool").ok K,
  Rz.propB "Machine" "states",
  fun K => (He.Fa.glo "_law_is_int").ok K,
  fun K => (He.Fa.meth "Machine" "edges").ok K,
  fun K => (He.Fa.glo "_law_unique").ok K,
  fun K => (He.Fa.meth "Machine" "free").ok K,
  fun K => (He.Fa.free "tuple").ok K,
  fun K => (He.Fa.free "str").ok K,
  fun K => (He.Fa.glo "_law_fine").ok K,
  fun K => (He.Fa.glo "_law_spread").ok K,
  fun K => (He.Fa.glo "_law_graph_of").ok K,
  fun K => (He.Fa.glo "_law_walk_on").ok K,
  fun K => (He.Fa.free "bytes").ok K,
  fun K => (He.Fa.glo "as_string").ok K,
  fun K => (He.Fa.free "enumerate").ok K,
  fun K => (He.Fa.str "SIGNS" "abcdefghijklmnopqrstuvwxyz").ok K,
  Rz.excB "BadSign",
  fun K => (He.Fa.noat "BadSign" "at").ok K,
  Rz.iniB PROG "BadSign",
  fun K => (He.Fa.free "super").ok K,
  fun K => (He.Fa.glo "BadSign").ok K,
  fun K => (He.Fa.glo "check_text").ok K,
  Rz.excB "Uneven",
  Rz.iniB PROG "Uneven"]
def fa1 : List (Rz.Fg → Bool) := [
  fun K => (He.Fa.glo "Uneven").ok K,
  fun K => (He.Fa.int "TOP" 9).ok K,
  Rz.excB "BadHeight",
  fun K => (He.Fa.noat "BadHeight" "height").ok K,
  Rz.iniB PROG "BadHeight",
  fun K => (He.Fa.glo "BadHeight").ok K,
  fun K => (He.Fa.free "zip").ok K,
  fun K => (He.Fa.noat "Row" "pairs").ok K,
  fun K => (He.Fa.cls "Row").ok K,
  fun K => (He.Fa.mkr "Row").ok K,
  fun K => (He.Fa.glo "Row").ok K,
  fun K => (He.Fa.glo "_law_as_row").ok K,
  fun K => (He.Fa.glo "reached").ok K,
  fun K => (He.Fa.meth "Machine" "spread").ok K,
  fun K => (He.Fa.free "iter").ok K,
  fun K => (He.Fa.meth "Row" "__iter__").ok K,
  fun K => (He.Fa.meth "Machine" "ends").ok K,
  fun K => (He.Fa.glo "_law_join").ok K,
  fun K => (He.Fa.glo "_law_read").ok K,
  fun K => (He.Fa.glo "_law_odd_sign").ok K,
  fun K => (He.Fa.free "any").ok K,
  fun K => (He.Fa.meth "Machine" "__contains__").ok K,
  Rz.propB "Row" "signs",
  fun K => (He.Fa.glo "_law_spelling").ok K,
  fun K => (He.Fa.glo "_law_meets").ok K,
  fun K => (He.Fa.glo "law").ok K]
def d_law_pool : Rz.Dq := ⟨Rz.pG "_law_pool", "_law_pool", "_law_pool", defArgs s_law_pool, defBody s_law_pool, defScope s_law_pool, [], [], []⟩
def d_law_pick : Rz.Dq := ⟨Rz.pG "_law_pick", "_law_pick", "_law_pick", defArgs s_law_pick, defBody s_law_pick, defScope s_law_pick, [], [], []⟩
def d_law_alphabet : Rz.Dq := ⟨Rz.pG "_law_alphabet", "_law_alphabet", "_law_alphabet", defArgs s_law_alphabet, defBody s_law_alphabet, defScope s_law_alphabet, [], [], []⟩
def d_law_machine_of : Rz.Dq := ⟨Rz.pG "_law_machine_of", "_law_machine_of", "_law_machine_of", defArgs s_law_machine_of, defBody s_law_machine_of, defScope s_law_machine_of, [], [], []⟩
def d_Machine_init : Rz.Dq := ⟨Rz.pM "Machine" "__init__", "__init__", "Machine.__init__", defArgs s_Machine_init, defBody s_Machine_init, defScope s_Machine_init, [], [], []⟩
def d_Machine_last : Rz.Dq := ⟨Rz.pP "Machine" "last", "last", "Machine.last", defArgs s_Machine_last, defBody s_Machine_last, defScope s_Machine_last, [], [], []⟩
def d_law_is_int : Rz.Dq := ⟨Rz.pG "_law_is_int", "_law_is_int", "_law_is_int", defArgs s_law_is_int, defBody s_law_is_int, defScope s_law_is_int, [], [], []⟩
def d_Machine_states : Rz.Dq := ⟨Rz.pP "Machine" "states", "states", "Machine.states", defArgs s_Machine_states, defBody s_Machine_states, defScope s_Machine_states, [], [], []⟩
def d_Machine_edges : Rz.Dq := ⟨Rz.pM "Machine" "edges", "edges", "Machine.edges", defArgs s_Machine_edges, defBody s_Machine_edges, defScope s_Machine_edges, [], [], []⟩
def d_law_unique : Rz.Dq := ⟨Rz.pG "_law_unique", "_law_unique", "_law_unique", defArgs s_law_unique, defBody s_law_unique, defScope s_law_unique, [], [], []⟩
def d_Machine_free : Rz.Dq := ⟨Rz.pM "Machine" "free", "free", "Machine.free", defArgs s_Machine_free, defBody s_Machine_free, defScope s_Machine_free, [], [], []⟩
def d_law_fine : Rz.Dq := ⟨Rz.pG "_law_fine", "_law_fine", "_law_fine", defArgs s_law_fine, defBody s_law_fine, defScope s_law_fine, [], [], []⟩
def d_law_spread : Rz.Dq := ⟨Rz.pG "_law_spread", "_law_spread", "_law_spread", defArgs s_law_spread, defBody s_law_spread, defScope s_law_spread, [], [], []⟩
def d_law_graph_of : Rz.Dq := ⟨Rz.pG "_law_graph_of", "_law_graph_of", "_law_graph_of", defArgs s_law_graph_of, defBody s_law_graph_of, defScope s_law_graph_of, [], [], []⟩
def d_law_walk_on : Rz.Dq := ⟨Rz.pG "_law_walk_on", "_law_walk_on", "_law_walk_on", defArgs s_law_walk_on, defBody s_law_walk_on, defScope s_law_walk_on, [], [], []⟩
def d_as_string : Rz.Dq := ⟨Rz.pG "as_string", "as_string", "as_string", defArgs s_as_string, defBody s_as_string, defScope s_as_string, [], [], []⟩
def d_check_text : Rz.Dq := ⟨Rz.pG "check_text", "check_text", "check_text", defArgs s_check_text, defBody s_check_text, defScope s_check_text, [], [], []⟩
def d_Row_init : Rz.Dq := ⟨Rz.pM "Row" "__init__", "__init__", "Row.__init__", defArgs s_Row_init, defBody s_Row_init, defScope s_Row_init, [], [.str "", .non], []⟩
def d_law_as_row : Rz.Dq := ⟨Rz.pG "_law_as_row", "_law_as_row", "_law_as_row", defArgs s_law_as_row, defBody s_law_as_row, defScope s_law_as_row, [], [], []⟩
def d_reached : Rz.Dq := ⟨Rz.pG "reached", "reached", "reached", defArgs s_reached, defBody s_reached, defScope s_reached, [], [], []⟩
def d_Machine_spread : Rz.Dq := ⟨Rz.pM "Machine" "spread", "spread", "Machine.spread", defArgs s_Machine_spread, defBody s_Machine_spread, defScope s_Machine_spread, [], [], []⟩
def d_Row_iter : Rz.Dq := ⟨Rz.pM "Row" "__iter__", "__iter__", "Row.__iter__", defArgs s_Row_iter, defBody s_Row_iter, defScope s_Row_iter, [], [], []⟩
def d_Machine_ends : Rz.Dq := ⟨Rz.pM "Machine" "ends", "ends", "Machine.ends", defArgs s_Machine_ends, defBody s_Machine_ends, defScope s_Machine_ends, [], [], []⟩
def d_law_join : Rz.Dq := ⟨Rz.pG "_law_join", "_law_join", "_law_join", defArgs s_law_join, defBody s_law_join, defScope s_law_join, [], [], []⟩
def d_law_read : Rz.Dq := ⟨Rz.pG "_law_read", "_law_read", "_law_read", defArgs s_law_read, defBody s_law_read, defScope s_law_read, [], [], []⟩
def d_law_odd_sign : Rz.Dq := ⟨Rz.pG "_law_odd_sign", "_law_odd_sign", "_law_odd_sign", defArgs s_law_odd_sign, defBody s_law_odd_sign, defScope s_law_odd_sign, [], [], []⟩
def d_Machine_contains : Rz.Dq := ⟨Rz.pM "Machine" "__contains__", "__contains__", "Machine.__contains__", defArgs s_Machine_contains, defBody s_Machine_contains, defScope s_Machine_contains, [], [], []⟩
def d_Row_signs : Rz.Dq := ⟨Rz.pP "Row" "signs", "signs", "Row.signs", defArgs s_Row_signs, defBody s_Row_signs, defScope s_Row_signs, [], [], []⟩
def d_law_meets : Rz.Dq := ⟨Rz.pG "_law_meets", "_law_meets", "_law_meets", defArgs s_law_meets, defBody s_law_meets, defScope s_law_meets, [], [], []⟩
def d_law_spelling : Rz.Dq := ⟨Rz.pG "_law_spelling", "_law_spelling", "_law_spelling", defArgs s_law_spelling, defBody s_law_spelling, defScope s_law_spelling, [], [], []⟩
def d_law : Rz.Dq := ⟨Rz.pG "law", "law", "law", defArgs s_law, defBody s_law, defScope s_law, [], [], []⟩
def d_BadSign_init : Rz.Dq := ⟨Rz.pM "BadSign" "__init__", "__init__", "BadSign.__init__", defArgs s_BadSign_init, defBody s_BadSign_init, defScope s_BadSign_init, ["__class__"], [], []⟩
def d_Uneven_init : Rz.Dq := ⟨Rz.pM "Uneven" "__init__", "__init__", "Uneven.__init__", defArgs s_Uneven_init, defBody s_Uneven_init, defScope s_Uneven_init, ["__class__"], [], []⟩
def d_BadHeight_init : Rz.Dq := ⟨Rz.pM "BadHeight" "__init__", "__init__", "BadHeight.__init__", defArgs s_BadHeight_init, defBody s_BadHeight_init, defScope s_BadHeight_init, ["__class__"], [], []⟩
def fa2 : List (Rz.Fg → Bool) := []
def fn0 : List Rz.Dq := [d_law_pool, d_law_pick, d_law_alphabet, d_law_machine_of, d_Machine_init, d_Machine_last, d_law_is_int, d_Machine_states, d_Machine_edges, d_law_unique, d_Machine_free, d_law_fine, d_law_spread, d_law_graph_of]
def fn1 : List Rz.Dq := [d_law_walk_on, d_as_string, d_check_text, d_Row_init, d_law_as_row, d_reached, d_Machine_spread, d_Row_iter, d_Machine_ends, d_law_join, d_law_read, d_law_odd_sign, d_Machine_contains, d_Row_signs]
def fn2 : List Rz.Dq := [d_law_meets, d_law_spelling, d_law, d_BadSign_init, d_Uneven_init, d_BadHeight_init]
def fa : List (Rz.Fg → Bool) := fa0 ++ fa1 ++ fa2
def fn : List Rz.Dq := fn0 ++ fn1 ++ fn2
abbrev R : PySem.W.OpenRow := PySem.W.OpenLaw.row PySem.Challenge.rw_risensigns_k16_machine_reads
abbrev hk : PySem.W.Hook := Rz.hookR 5 fa fn
def ob (s : PySem.W.SharedT) : Rz.AlR := Rz.obsRG 5 fa fn (HandSHeadRun.getT s)
theorem ob_eq (s : PySem.W.SharedT) : ob s = hk.obs s.abs := Rz.obsRG_eq (HandSHeadRun.getT_eq s)
def loose0 : List PySem.Str := ["_wall", "RiseError", "BadSign", "Uneven", "BadHeight", "NoPlace", "TOP", "SIGNS", "as_string", "check_text", "is_sign", "Row", "reached", "Machine", "_law_pool", "_law_pick", "_law_alphabet", "_law_is_int", "_law_graph_of", "_law_spread"]
def loose1 : List PySem.Str := ["_law_read", "_law_as_row", "_law_odd_sign", "_law_machine_of", "_law_join", "_law_unique", "_law_walk_on", "_law_spelling", "_law_meets", "_law_fine"]
def loose : List PySem.Str := loose0 ++ loose1
theorem headL (w : World) : Rz.LkEq R 9000 w := by
  intro os
  kernel_rfl
theorem headS (w : World) : Rz.SnEq R (PySem.W.view R.prog [35]) 9000 loose w := by
  intro os
  kernel_rfl
theorem rnv0 (w : World) : Rz.ObEqV R 9000 5 fa0 fn0 (true, [d_law_pool.val, d_law_pick.val, d_law_alphabet.val, d_law_machine_of.val, d_Machine_init.val, d_Machine_last.val, d_law_is_int.val, d_Machine_states.val, d_Machine_edges.val, d_law_unique.val, d_Machine_free.val, d_law_fine.val, d_law_spread.val, d_law_graph_of.val]) w := by
  intro os
  kernel_rfl
theorem run0 (w : World) : Rz.ObEq R 9000 5 fa0 fn0 w := (rnv0 w).to rfl
theorem rnv1 (w : World) : Rz.ObEqV R 9000 5 fa1 fn1 (true, [d_law_walk_on.val, d_as_string.val, d_check_text.val, d_Row_init.val, d_law_as_row.val, d_reached.val, d_Machine_spread.val, d_Row_iter.val, d_Machine_ends.val, d_law_join.val, d_law_read.val, d_law_odd_sign.val, d_Machine_contains.val, d_Row_signs.val]) w := by
  intro os
  kernel_rfl
theorem run1 (w : World) : Rz.ObEq R 9000 5 fa1 fn1 w := (rnv1 w).to rfl
theorem rnv2 (w : World) : Rz.ObEqV R 9000 5 fa2 fn2 (true, [d_law_meets.val, d_law_spelling.val, d_law.val, d_BadSign_init.val, d_Uneven_init.val, d_BadHeight_init.val]) w := by
  intro os
  kernel_rfl
theorem run2 (w : World) : Rz.ObEq R 9000 5 fa2 fn2 w := (rnv2 w).to rfl
theorem run (w : World) : HandSHeadRun.RunEq R (PySem.W.view R.prog [35]) hk ob 9000 loose w := Rz.run_all (headL w) (headS w) (Rz.ObEq.app (Rz.ObEq.app (run0 w) (run1 w)) (run2 w))
section
variable {w : World} {K : Frg} {mg : Str → Option Value} {base : Heap}
/-! _law_pool -/
abbrev N_law_pool : List Str := ["_law_script", "_law_draws", "_law_seed", "_law_cell", "_law_k", "_law_rest", "_law_value"]
def t_law_pool (K : Frg) (E : XK) : TS :=
  (tSeq (tAsg (tLst tNil) (gName 1)) (tSeq (tAsg (tC (.int 0)) (gName 2)) (tSeq (tFor (iList K (tVar 0)) (gName 3) (tSeq (tAsg (tCB (rAbsA) (tCons (tVar 3) tNil)) (gName 5)) (tSeq (tAsg (tOp rModA (tCB (rIntA) (tCons (tOp rAddA (tOp rMulA (tVar 2) (tC (.int 31))) (tVar 5)) tNil)) (tC (.int 1009))) (gName 2)) (tIfS (tTest (tOp rLtA (tVar 5) (tOp rPowA (tC (.int 10)) (tC (.int 18))))) (tDrop (tBM K "list" rAppend (tVar 1) (tCons (tVar 5) tNil))) (tFor (iRng1 (tCons (tC (.int 60)) tNil)) (gName 4) (tIfS (tTest (tOp rGtA (tVar 5) (tC (.int 0)))) (tSeq (tDrop (tBM K "list" rAppend (tVar 1) (tCons (tOp rModA (tCB (rIntA) (tCons (tVar 5) tNil)) (tC (.int 1000))) tNil))) (tAsg (tOp rDivA (tVar 5) (tC (.int 1000))) (gName 5))) tNext)))))) (tSeq (tFor (iRng1 (tCons (tC (.int 90)) tNil)) (gName 4) (tSeq (tAsg (tOp rModA (tCB (rIntA) (tCons (tOp rMulA (tOp rAddA (tVar 2) (tC (.int 1))) (tOp rAddA (tOp rDivA (tOp rAddA (tOp rMulA (tOp rMulA (tC (.int 3)) (tVar 4)) (tVar 4)) (tOp rMulA (tC (.int 5)) (tVar 4))) (tC (.int 2))) (tC (.int 7)))) tNil)) (tC (.int 1009))) (gName 6)) (tDrop (tBM K "list" rAppend (tVar 1) (tCons (tOp rModA (tCB (rIntA) (tCons (tOp rAddA (tOp rMulA (tVar 6) (tVar 6)) (tVar 4)) tNil)) (tC (.int 1013))) tNil))))) (tRet (tVar 1))))))
def sp_law_pool (K : Frg) : Sp := fun vs H Q E => vs.length = 1 ∧ t_law_pool K E { nx := fun _ H' => Q .non H', rt := Q } (start N_law_pool vs) H
theorem sc_law_pool : FnScope N_law_pool ["_law_script"] (defScope s_law_pool) := ⟨rfl, rfl, rfl, by decide +kernel, rfl, by decide +kernel, by decide +kernel⟩
theorem ok_law_pool (T : Txt PROG K mg) : ∃ fd, FnOk PROG w K mg base (L2.CX PROG w) 1 (Rz.pG "_law_pool" K) fd ["_law_script"] (sp_law_pool K) ∧ FunD K "_law_pool" "_law_pool" (defArgs s_law_pool) (defBody s_law_pool) (defScope s_law_pool) [] [] (Rz.pG "_law_pool" K) fd := by
  obtain ⟨fd, F⟩ := T.F_law_pool
  refine ⟨fd, F.ok sc_law_pool (fun vs H Q E h => h.1) (fun cdv A outer s H vs Q E hr h => ⟨t_law_pool K E, ?_, h.2⟩), F⟩
  exact (pss_cons (ps_set (i := 1) sc_law_pool.nd rfl (by first | exact Or.inl rfl | exact Or.inr rfl) (pe_lst pa_nil)) (pss_cons (ps_set (i := 2) sc_law_pool.nd rfl (by first | exact Or.inl rfl | exact Or.inr rfl) pe_int) (pss_cons (ps_for (passes_of rfl) rfl (pi_list (pv 0)) (pg_name (i := 3) sc_law_pool.nd rfl (by first | exact Or.inl rfl | exact Or.inr rfl)) (pss_cons (ps_set (i := 5) sc_law_pool.nd rfl (by first | exact Or.inl rfl | exact Or.inr rfl) (pe_callB c_abs rfl T.f_abs (by decide +kernel) (pa_cons (pv 3) pa_nil))) (pss_cons (ps_set (i := 2) sc_law_pool.nd rfl (by first | exact Or.inl rfl | exact Or.inr rfl) (pe_op op_modA (pe_callTy c_int rfl T.f_int (by decide +kernel) (pa_cons (pe_op op_addA (pe_op op_mulA (pv 2) pe_int) (pv 5)) pa_nil)) pe_int)) (pss_one (ps_if (pt_cmpR op_ltA (pv 5) (pe_op op_powA pe_int pe_int) (nomark _)) (pss_one (ps_expr (pe_bm PySem.F.plainAttrs_list PySem.F.slot_list_append PySem.F.type_list_append mt_append (pv 1) (pa_cons (pv 5) pa_nil)))) (pss_one (ps_for (passes_of rfl) rfl (pi_range1 rfl T.f_range (pa_cons pe_int pa_nil)) (pg_name (i := 4) sc_law_pool.nd rfl (by first | exact Or.inl rfl | exact Or.inr rfl)) (pss_one (ps_if (pt_cmpR op_gtA (pv 5) pe_int (nomark _)) (pss_cons (ps_expr (pe_bm PySem.F.plainAttrs_list PySem.F.slot_list_append PySem.F.type_list_append mt_append (pv 1) (pa_cons (pe_op op_modA (pe_callTy c_int rfl T.f_int (by decide +kernel) (pa_cons (pv 5) pa_nil)) pe_int) pa_nil))) (pss_one (ps_set (i := 5) sc_law_pool.nd rfl (by first | exact Or.inl rfl | exact Or.inr rfl) (pe_op op_divA (pv 5) pe_int)))) pss_nil))))))))) (pss_cons (ps_for (passes_of rfl) rfl (pi_range1 rfl T.f_range (pa_cons pe_int pa_nil)) (pg_name (i := 4) sc_law_pool.nd rfl (by first | exact Or.inl rfl | exact Or.inr rfl)) (pss_cons (ps_set (i := 6) sc_law_pool.nd rfl (by first | exact Or.inl rfl | exact Or.inr rfl) (pe_op op_modA (pe_callTy c_int rfl T.f_int (by decide +kernel) (pa_cons (pe_op op_mulA (pe_op op_addA (pv 2) pe_int) (pe_op op_addA (pe_op op_divA (pe_op op_addA (pe_op op_mulA (pe_op op_mulA pe_int (pv 4)) (pv 4)) (pe_op op_mulA pe_int (pv 4))) pe_int) pe_int)) pa_nil)) pe_int)) (pss_one (ps_expr (pe_bm PySem.F.plainAttrs_list PySem.F.slot_list_append PySem.F.type_list_append mt_append (pv 1) (pa_cons (pe_op op_modA (pe_callTy c_int rfl T.f_int (by decide +kernel) (pa_cons (pe_op op_addA (pe_op op_mulA (pv 6) (pv 6)) (pv 4)) pa_nil)) pe_int) pa_nil)))))) (pss_one (ps_ret (pv 1)))))))
/-! _law_pick -/
abbrev N_law_pick : List Str := ["_law_draws", "_law_many"]
def t_law_pick (K : Frg) (E : XK) : TS :=
  (tSeq (tIfS (tTest (tOp (rEqA K) (tVar 0) (tLst tNil))) (tRet (tC (.int 0))) tNext) (tRet (tOp rModA (tCB (rIntA) (tCons (tBM K "list" rPopAt (tVar 0) (tCons (tC (.int 0)) tNil)) tNil)) (tVar 1))))
def sp_law_pick (K : Frg) : Sp := fun vs H Q E => vs.length = 2 ∧ t_law_pick K E { nx := fun _ H' => Q .non H', rt := Q } (start N_law_pick vs) H
theorem sc_law_pick : FnScope N_law_pick ["_law_draws", "_law_many"] (defScope s_law_pick) := ⟨rfl, rfl, rfl, by decide +kernel, rfl, by decide +kernel, by decide +kernel⟩
theorem ok_law_pick (T : Txt PROG K mg) : ∃ fd, FnOk PROG w K mg base (L2.CX PROG w) 1 (Rz.pG "_law_pick" K) fd ["_law_draws", "_law_many"] (sp_law_pick K) ∧ FunD K "_law_pick" "_law_pick" (defArgs s_law_pick) (defBody s_law_pick) (defScope s_law_pick) [] [] (Rz.pG "_law_pick" K) fd := by
  obtain ⟨fd, F⟩ := T.F_law_pick
  refine ⟨fd, F.ok sc_law_pick (fun vs H Q E h => h.1) (fun cdv A outer s H vs Q E hr h => ⟨t_law_pick K E, ?_, h.2⟩), F⟩
  exact (pss_cons (ps_if (pt_cmpR (op_eqA hr) (pv 0) (pe_lst pa_nil) (nomark _)) (pss_one (ps_ret pe_int)) pss_nil) (pss_one (ps_ret (pe_op op_modA (pe_callTy c_int rfl T.f_int (by decide +kernel) (pa_cons (pe_bm PySem.F.plainAttrs_list PySem.F.slot_list_pop PySem.F.type_list_pop mt_popAt (pv 0) (pa_cons pe_int pa_nil)) pa_nil)) (pv 1)))))
/-! _law_alphabet -/
abbrev N_law_alphabet : List Str := ["_law_draws", "_law_many", "_law_letters", "_law_signs", "_law_k", "_law_left", "_law_letter"]
def t_law_alphabet (K : Frg) (E : XK) : TS :=
  (tSeq (tAsg (tC (.str "abcdefghijklmnopqrstuvwxyz")) (gName 2)) (tSeq (tAsg (tC (.str "")) (gName 3)) (tSeq (tFor (iRng1 (tCons (tVar 1) tNil)) (gName 4) (tSeq (tAsg (tLc (iStr (tVar 2)) (gName 6) (tTest (tOp (rNotInA K) (tVar 6) (tVar 3))) (tVar 6) [6]) (gName 5)) (tAsg (tOp rAddA (tVar 3) (tOp (rIx K) (tVar 5) (tCallSD (sp_law_pick K) [] (WE (W0 E)) (tCons (tVar 0) (tCons (tCB (rLenA K) (tCons (tVar 5) tNil)) tNil))))) (gName 3)))) (tRet (tVar 3)))))
def sp_law_alphabet (K : Frg) : Sp := fun vs H Q E => vs.length = 2 ∧ t_law_alphabet K E { nx := fun _ H' => Q .non H', rt := Q } (start N_law_alphabet vs) H
theorem sc_law_alphabet : FnScope N_law_alphabet ["_law_draws", "_law_many"] (defScope s_law_alphabet) := ⟨rfl, rfl, rfl, by decide +kernel, rfl, by decide +kernel, by decide +kernel⟩
theorem ok_law_alphabet (T : Txt PROG K mg) : ∃ fd, FnOk PROG w K mg base (L2.CX PROG w) 2 (Rz.pG "_law_alphabet" K) fd ["_law_draws", "_law_many"] (sp_law_alphabet K) ∧ FunD K "_law_alphabet" "_law_alphabet" (defArgs s_law_alphabet) (defBody s_law_alphabet) (defScope s_law_alphabet) [] [] (Rz.pG "_law_alphabet" K) fd := by
  obtain ⟨fd_law_pick, G_law_pick, D_law_pick⟩ := ok_law_pick (w := w) (base := base) T
  have b_law_pick_2 : Binds K fd_law_pick _ [] := D_law_pick.bindsN (ps := ["_law_draws", "_law_many"]) (fun _ _ _ _ _ _ us hl => match us, hl with | [_, _], _ => rfl)
  obtain ⟨fd, F⟩ := T.F_law_alphabet
  refine ⟨fd, F.ok sc_law_alphabet (fun vs H Q E h => h.1) (fun cdv A outer s H vs Q E hr h => ⟨t_law_alphabet K E, ?_, h.2⟩), F⟩
  exact (pss_cons (ps_set (i := 2) sc_law_alphabet.nd rfl (by first | exact Or.inl rfl | exact Or.inr rfl) pe_str) (pss_cons (ps_set (i := 3) sc_law_alphabet.nd rfl (by first | exact Or.inl rfl | exact Or.inr rfl) pe_str) (pss_cons (ps_for (passes_of rfl) rfl (pi_range1 rfl T.f_range (pa_cons (pv 1) pa_nil)) (pg_name (i := 4) sc_law_alphabet.nd rfl (by first | exact Or.inl rfl | exact Or.inr rfl)) (pss_cons (by first | (refine ps_setLc (i := 5) (own := [("_law_letter", 6)]) rfl sc_law_alphabet.nd rfl rfl ?e ?f ?g ?h ?i ?j; (case e => exact sw_true rfl rfl rfl (by decide +kernel)); (case f => exact (pi_str (pv 2))); (case g => exact (blkOk_by (own := [("_law_letter", 6)]) (N := N_law_alphabet) (sc := defScope s_law_alphabet) (by decide +kernel))); (case h => exact (fun _ _ _ _ _ => (pg_name (i := 6) sc_law_alphabet.nd rfl (by first | exact Or.inl rfl | exact Or.inr rfl)))); (case i => exact (fun _ _ _ _ _ => (pts_one (pt_cmpR op_notInA (pv 6) (pv 3) (by rfl))))); (case j => exact (fun _ _ _ _ _ => (pv 6)))) | exact (ps_set (i := 5) sc_law_alphabet.nd rfl (by first | exact Or.inl rfl | exact Or.inr rfl) (pe_lc (own := [("_law_letter", 6)]) rfl sc_law_alphabet.nd (pi_str (pv 2)) (blkOk_by (own := [("_law_letter", 6)]) (N := N_law_alphabet) (sc := defScope s_law_alphabet) (by decide +kernel)) (fun _ _ _ _ _ => (pg_name (i := 6) sc_law_alphabet.nd rfl (by first | exact Or.inl rfl | exact Or.inr rfl))) (fun _ _ _ _ _ => (pts_one (pt_cmpR op_notInA (pv 6) (pv 3) (by rfl)))) (fun _ _ _ _ _ => (pv 6))))) (pss_one (ps_set (i := 3) sc_law_alphabet.nd rfl (by first | exact Or.inl rfl | exact Or.inr rfl) (pe_op op_addA (pv 3) (pe_ix ix_seq (pv 5) (pe_callSD G_law_pick (hr.mono (by decide)) rfl T.g__law_pick D_law_pick.kp b_law_pick_2 .nil (fun σ => passAt (takes_of rfl rfl rfl rfl) σ) (pa_cons (pv 0) (pa_cons (pe_callB c_len rfl T.f_len (by decide +kernel) (pa_cons (pv 5) pa_nil)) pa_nil))) (fun _ _ => rfl))))))) (pss_one (ps_ret (pv 3))))))
/-! _law_machine_of -/
abbrev N_law_machine_of : List Str := ["_law_draws", "_law_signs", "_law_many", "_law_edges", "_law_k", "_law_free", "_law_last", "_law_start", "_law_sign", "_law_level", "_law_state"]
def t_law_machine_of (K : Frg) (E : XK) : TS :=
  (tSeq (tAsg (tOp rAddA (tC (.int 1)) (tCallSD (sp_law_pick K) [] (WE (W0 E)) (tCons (tVar 0) (tCons (tC (.int 4)) tNil)))) (gName 2)) (tSeq (tAsg (tLst tNil) (gName 3)) (tSeq (tFor (iRng1 (tCons (tCallSD (sp_law_pick K) [] (WE (W0 E)) (tCons (tVar 0) (tCons (tC (.int 10)) tNil))) tNil)) (gName 4) (tSeq (tAsg (tCallSD (sp_law_pick K) [] (WE (W0 E)) (tCons (tVar 0) (tCons (tVar 2) tNil))) (gName 7)) (tSeq (tAsg (tOp (rIx K) (tVar 1) (tCallSD (sp_law_pick K) [] (WE (W0 E)) (tCons (tVar 0) (tCons (tCB (rLenA K) (tCons (tVar 1) tNil)) tNil)))) (gName 8)) (tSeq (tAsg (tCallSD (sp_law_pick K) [] (WE (W0 E)) (tCons (tVar 0) (tCons (tC (.int 3)) tNil))) (gName 9)) (tDrop (tBM K "list" rAppend (tVar 3) (tCons (tTup (tCons (tVar 7) (tCons (tVar 8) (tCons (tVar 9) (tCons (tCallSD (sp_law_pick K) [] (WE (W0 E)) (tCons (tVar 0) (tCons (tVar 2) tNil))) tNil))))) tNil))))))) (tSeq (tAsg (tLst tNil) (gName 5)) (tSeq (tFor (iRng1 (tCons (tCallSD (sp_law_pick K) [] (WE (W0 E)) (tCons (tVar 0) (tCons (tC (.int 6)) tNil))) tNil)) (gName 4) (tSeq (tAsg (tCallSD (sp_law_pick K) [] (WE (W0 E)) (tCons (tVar 0) (tCons (tVar 2) tNil))) (gName 7)) (tDrop (tBM K "list" rAppend (tVar 5) (tCons (tTup (tCons (tVar 7) (tCons (tCallSD (sp_law_pick K) [] (WE (W0 E)) (tCons (tVar 0) (tCons (tVar 2) tNil))) tNil))) tNil))))) (tSeq (tAsg (tLc (iRng1 (tCons (tVar 2) tNil)) (gName 10) (tTest (tOp (rEqA K) (tCallSD (sp_law_pick K) [] (WE WN) (tCons (tVar 0) (tCons (tC (.int 2)) tNil))) (tC (.int 1)))) (tVar 10) [10]) (gName 6)) (tRet (tTup (tCons (tVar 2) (tCons (tVar 6) (tCons (tVar 3) (tCons (tVar 5) tNil))))))))))))
def sp_law_machine_of (K : Frg) : Sp := fun vs H Q E => vs.length = 2 ∧ t_law_machine_of K E { nx := fun _ H' => Q .non H', rt := Q } (start N_law_machine_of vs) H
theorem sc_law_machine_of : FnScope N_law_machine_of ["_law_draws", "_law_signs"] (defScope s_law_machine_of) := ⟨rfl, rfl, rfl, by decide +kernel, rfl, by decide +kernel, by decide +kernel⟩
theorem ok_law_machine_of (T : Txt PROG K mg) : ∃ fd, FnOk PROG w K mg base (L2.CX PROG w) 2 (Rz.pG "_law_machine_of" K) fd ["_law_draws", "_law_signs"] (sp_law_machine_of K) ∧ FunD K "_law_machine_of" "_law_machine_of" (defArgs s_law_machine_of) (defBody s_law_machine_of) (defScope s_law_machine_of) [] [] (Rz.pG "_law_machine_of" K) fd := by
  obtain ⟨fd_law_pick, G_law_pick, D_law_pick⟩ := ok_law_pick (w := w) (base := base) T
  have b_law_pick_2 : Binds K fd_law_pick _ [] := D_law_pick.bindsN (ps := ["_law_draws", "_law_many"]) (fun _ _ _ _ _ _ us hl => match us, hl with | [_, _], _ => rfl)
  obtain ⟨fd, F⟩ := T.F_law_machine_of
  refine ⟨fd, F.ok sc_law_machine_of (fun vs H Q E h => h.1) (fun cdv A outer s H vs Q E hr h => ⟨t_law_machine_of K E, ?_, h.2⟩), F⟩
  exact (pss_cons (ps_set (i := 2) sc_law_machine_of.nd rfl (by first | exact Or.inl rfl | exact Or.inr rfl) (pe_op op_addA pe_int (pe_callSD G_law_pick (hr.mono (by decide)) rfl T.g__law_pick D_law_pick.kp b_law_pick_2 .nil (fun σ => passAt (takes_of rfl rfl rfl rfl) σ) (pa_cons (pv 0) (pa_cons pe_int pa_nil))))) (pss_cons (ps_set (i := 3) sc_law_machine_of.nd rfl (by first | exact Or.inl rfl | exact Or.inr rfl) (pe_lst pa_nil)) (pss_cons (ps_for (passes_of rfl) rfl (pi_range1 rfl T.f_range (pa_cons (pe_callSD G_law_pick (hr.mono (by decide)) rfl T.g__law_pick D_law_pick.kp b_law_pick_2 .nil (fun σ => passAt (takes_of rfl rfl rfl rfl) σ) (pa_cons (pv 0) (pa_cons pe_int pa_nil))) pa_nil)) (pg_name (i := 4) sc_law_machine_of.nd rfl (by first | exact Or.inl rfl | exact Or.inr rfl)) (pss_cons (ps_set (i := 7) sc_law_machine_of.nd rfl (by first | exact Or.inl rfl | exact Or.inr rfl) (pe_callSD G_law_pick (hr.mono (by decide)) rfl T.g__law_pick D_law_pick.kp b_law_pick_2 .nil (fun σ => passAt (takes_of rfl rfl rfl rfl) σ) (pa_cons (pv 0) (pa_cons (pv 2) pa_nil)))) (pss_cons (ps_set (i := 8) sc_law_machine_of.nd rfl (by first | exact Or.inl rfl | exact Or.inr rfl) (pe_ix ix_seq (pv 1) (pe_callSD G_law_pick (hr.mono (by decide)) rfl T.g__law_pick D_law_pick.kp b_law_pick_2 .nil (fun σ => passAt (takes_of rfl rfl rfl rfl) σ) (pa_cons (pv 0) (pa_cons (pe_callB c_len rfl T.f_len (by decide +kernel) (pa_cons (pv 1) pa_nil)) pa_nil))) (fun _ _ => rfl))) (pss_cons (ps_set (i := 9) sc_law_machine_of.nd rfl (by first | exact Or.inl rfl | exact Or.inr rfl) (pe_callSD G_law_pick (hr.mono (by decide)) rfl T.g__law_pick D_law_pick.kp b_law_pick_2 .nil (fun σ => passAt (takes_of rfl rfl rfl rfl) σ) (pa_cons (pv 0) (pa_cons pe_int pa_nil)))) (pss_one (ps_expr (pe_bm PySem.F.plainAttrs_list PySem.F.slot_list_append PySem.F.type_list_append mt_append (pv 3) (pa_cons (pe_tup (pa_cons (pv 7) (pa_cons (pv 8) (pa_cons (pv 9) (pa_cons (pe_callSD G_law_pick (hr.mono (by decide)) rfl T.g__law_pick D_law_pick.kp b_law_pick_2 .nil (fun σ => passAt (takes_of rfl rfl rfl rfl) σ) (pa_cons (pv 0) (pa_cons (pv 2) pa_nil))) pa_nil))))) pa_nil)))))))) (pss_cons (ps_set (i := 5) sc_law_machine_of.nd rfl (by first | exact Or.inl rfl | exact Or.inr rfl) (pe_lst pa_nil)) (pss_cons (ps_for (passes_of rfl) rfl (pi_range1 rfl T.f_range (pa_cons (pe_callSD G_law_pick (hr.mono (by decide)) rfl T.g__law_pick D_law_pick.kp b_law_pick_2 .nil (fun σ => passAt (takes_of rfl rfl rfl rfl) σ) (pa_cons (pv 0) (pa_cons pe_int pa_nil))) pa_nil)) (pg_name (i := 4) sc_law_machine_of.nd rfl (by first | exact Or.inl rfl | exact Or.inr rfl)) (pss_cons (ps_set (i := 7) sc_law_machine_of.nd rfl (by first | exact Or.inl rfl | exact Or.inr rfl) (pe_callSD G_law_pick (hr.mono (by decide)) rfl T.g__law_pick D_law_pick.kp b_law_pick_2 .nil (fun σ => passAt (takes_of rfl rfl rfl rfl) σ) (pa_cons (pv 0) (pa_cons (pv 2) pa_nil)))) (pss_one (ps_expr (pe_bm PySem.F.plainAttrs_list PySem.F.slot_list_append PySem.F.type_list_append mt_append (pv 5) (pa_cons (pe_tup (pa_cons (pv 7) (pa_cons (pe_callSD G_law_pick (hr.mono (by decide)) rfl T.g__law_pick D_law_pick.kp b_law_pick_2 .nil (fun σ => passAt (takes_of rfl rfl rfl rfl) σ) (pa_cons (pv 0) (pa_cons (pv 2) pa_nil))) pa_nil))) pa_nil)))))) (pss_cons (by first | (refine ps_setLc (i := 6) (own := [("_law_state", 10)]) rfl sc_law_machine_of.nd rfl rfl ?e ?f ?g ?h ?i ?j; (case e => exact sw_true rfl rfl rfl (by decide +kernel)); (case f => exact (pi_range1 rfl T.f_range (pa_cons (pv 2) pa_nil))); (case g => exact (blkOk_by (own := [("_law_state", 10)]) (N := N_law_machine_of) (sc := defScope s_law_machine_of) (by decide +kernel))); (case h => exact (fun _ _ _ _ _ => (pg_name (i := 10) sc_law_machine_of.nd rfl (by first | exact Or.inl rfl | exact Or.inr rfl)))); (case i => exact (fun _ _ _ _ _ => (pts_one (pt_cmpR (op_eqA hr) (pe_callSD G_law_pick (hr.mono (by decide)) rfl T.g__law_pick D_law_pick.kp b_law_pick_2 .nil (fun σ => passAt takes0 σ) (pa_cons (pv 0) (pa_cons pe_int pa_nil))) pe_int (nomark _))))); (case j => exact (fun _ _ _ _ _ => (pv 10)))) | exact (ps_set (i := 6) sc_law_machine_of.nd rfl (by first | exact Or.inl rfl | exact Or.inr rfl) (pe_lc (own := [("_law_state", 10)]) rfl sc_law_machine_of.nd (pi_range1 rfl T.f_range (pa_cons (pv 2) pa_nil)) (blkOk_by (own := [("_law_state", 10)]) (N := N_law_machine_of) (sc := defScope s_law_machine_of) (by decide +kernel)) (fun _ _ _ _ _ => (pg_name (i := 10) sc_law_machine_of.nd rfl (by first | exact Or.inl rfl | exact Or.inr rfl))) (fun _ _ _ _ _ => (pts_one (pt_cmpR (op_eqA hr) (pe_callSD G_law_pick (hr.mono (by decide)) rfl T.g__law_pick D_law_pick.kp b_law_pick_2 .nil (fun σ => passAt takes0 σ) (pa_cons (pv 0) (pa_cons pe_int pa_nil))) pe_int (nomark _)))) (fun _ _ _ _ _ => (pv 10))))) (pss_one (ps_ret (pe_tup (pa_cons (pv 2) (pa_cons (pv 6) (pa_cons (pv 3) (pa_cons (pv 5) pa_nil)))))))))))))
/-! Machine.__init__ -/
abbrev N_Machine_init : List Str := ["self", "states", "last", "edges", "free", "start", "sign", "height", "goal"]
def t_Machine_init (K : Frg) (E : XK) : TS :=
  (tSeq (sFld K (tVar 0) (tVar 1) "many") (tSeq (sFld K (tVar 0) (SetX.tSortSet SetX.memK K (tVar 2)) "finals") (tSeq (sFld K (tVar 0) (SetX.tSortSet SetX.memU K (tVar 3)) "arcs") (tSeq (sFld K (tVar 0) (SetX.tSortSc SetX.memU K (iList K (tVar 4)) (gTup K 2 (gCons (gName 5) (gCons (gName 8) gNil))) (tTest (tOp (rNeA K) (tVar 5) (tVar 8))) (tTup (tCons (tVar 5) (tCons (tVar 8) tNil))) [5, 8]) "leads") (tSeq (sFld K (tVar 0) tDNewK "outs") (tSeq (tFor (iList K (tFld K (tVar 0) "arcs")) (gTup K 4 (gCons (gName 5) (gCons (gName 6) (gCons (gName 7) (gCons (gName 8) gNil))))) (tDrop (tBM K "list" rAppend (tDSetd (tFld K (tVar 0) "outs") (tVar 5) (tLst tNil)) (tCons (tTup (tCons (tVar 6) (tCons (tVar 7) (tCons (tVar 8) tNil)))) tNil)))) (tSeq (sFld K (tVar 0) tDNewK "onward") (tFor (iList K (tFld K (tVar 0) "leads")) (gTup K 2 (gCons (gName 5) (gCons (gName 8) gNil))) (tDrop (tBM K "list" rAppend (tDSetd (tFld K (tVar 0) "onward") (tVar 5) (tLst tNil)) (tCons (tVar 8) tNil)))))))))))
def sp_Machine_init (K : Frg) : Sp := fun vs H Q E => vs.length = 5 ∧ t_Machine_init K E { nx := fun _ H' => Q .non H', rt := Q } (start N_Machine_init vs) H
theorem sc_Machine_init : FnScope N_Machine_init ["self", "states", "last", "edges", "free"] (defScope s_Machine_init) := ⟨rfl, rfl, rfl, by decide +kernel, rfl, by decide +kernel, by decide +kernel⟩
theorem ok_Machine_init (T : Txt PROG K mg) : ∃ fd, FnOk PROG w K mg base (L2.CX PROG w) 1 (Rz.pM "Machine" "__init__" K) fd ["self", "states", "last", "edges", "free"] (sp_Machine_init K) ∧ FunD K "__init__" "Machine.__init__" (defArgs s_Machine_init) (defBody s_Machine_init) (defScope s_Machine_init) [] [] (Rz.pM "Machine" "__init__" K) fd := by
  obtain ⟨fd, F⟩ := T.F_Machine_init
  refine ⟨fd, F.ok sc_Machine_init (fun vs H Q E h => h.1) (fun cdv A outer s H vs Q E hr h => ⟨t_Machine_init K E, ?_, h.2⟩), F⟩
  exact (pss_cons (ps_fld (pv 0) (pv 1) rfl) (pss_cons (ps_fld (pv 0) (SetX.pe_sortSetL (SetX.kitK _ _) rfl hr.units rfl T.f_sorted rfl T.f_set (pv 2)) rfl) (pss_cons (ps_fld (pv 0) (SetX.pe_sortSetL (SetX.kitU _ _) rfl hr.units rfl T.f_sorted rfl T.f_set (pv 3)) rfl) (pss_cons (ps_fld (pv 0) (SetX.pe_sortSc (SetX.kitU _ _) (own := [("start", 5), ("goal", 8)]) rfl sc_Machine_init.nd hr.units rfl T.f_sorted (pi_list (pv 4)) (blkOk_by (own := [("start", 5), ("goal", 8)]) (N := N_Machine_init) (sc := defScope s_Machine_init) (by decide +kernel)) (fun _ _ _ _ _ => (pg_tup rfl (pgs_cons (pg_name (i := 5) sc_Machine_init.nd rfl (by first | exact Or.inl rfl | exact Or.inr rfl)) (pgs_cons (pg_name (i := 8) sc_Machine_init.nd rfl (by first | exact Or.inl rfl | exact Or.inr rfl)) pgs_nil)))) (fun _ _ _ _ _ => (pts_one (pt_cmpR (op_neA hr) (pv 5) (pv 8) (nomark _)))) (fun _ _ _ _ _ => (pe_tup (pa_cons (pv 5) (pa_cons (pv 8) pa_nil))))) rfl) (pss_cons (ps_fld (pv 0) pe_dnewK rfl) (pss_cons (ps_for (passes_of rfl) rfl (pi_list (pe_fld (pv 0) rfl)) (pg_tup rfl (pgs_cons (pg_name (i := 5) sc_Machine_init.nd rfl (by first | exact Or.inl rfl | exact Or.inr rfl)) (pgs_cons (pg_name (i := 6) sc_Machine_init.nd rfl (by first | exact Or.inl rfl | exact Or.inr rfl)) (pgs_cons (pg_name (i := 7) sc_Machine_init.nd rfl (by first | exact Or.inl rfl | exact Or.inr rfl)) (pgs_cons (pg_name (i := 8) sc_Machine_init.nd rfl (by first | exact Or.inl rfl | exact Or.inr rfl)) pgs_nil))))) (pss_one (ps_expr (pe_bm PySem.F.plainAttrs_list PySem.F.slot_list_append PySem.F.type_list_append mt_append (pe_dsetd (pe_fld (pv 0) rfl) (pv 5) (pe_lst pa_nil) ⟨rfl, rfl, rfl, rfl⟩) (pa_cons (pe_tup (pa_cons (pv 6) (pa_cons (pv 7) (pa_cons (pv 8) pa_nil)))) pa_nil))))) (pss_cons (ps_fld (pv 0) pe_dnewK rfl) (pss_one (ps_for (passes_of rfl) rfl (pi_list (pe_fld (pv 0) rfl)) (pg_tup rfl (pgs_cons (pg_name (i := 5) sc_Machine_init.nd rfl (by first | exact Or.inl rfl | exact Or.inr rfl)) (pgs_cons (pg_name (i := 8) sc_Machine_init.nd rfl (by first | exact Or.inl rfl | exact Or.inr rfl)) pgs_nil))) (pss_one (ps_expr (pe_bm PySem.F.plainAttrs_list PySem.F.slot_list_append PySem.F.type_list_append mt_append (pe_dsetd (pe_fld (pv 0) rfl) (pv 5) (pe_lst pa_nil) ⟨rfl, rfl, rfl, rfl⟩) (pa_cons (pv 8) pa_nil)))))))))))))
/-! Machine.last -/
abbrev N_Machine_last : List Str := ["self"]
def t_Machine_last (K : Frg) (E : XK) : TS :=
  (tRet (tCB (rListA K) (tCons (tFld K (tVar 0) "finals") tNil)))
def sp_Machine_last (K : Frg) : Sp := fun vs H Q E => vs.length = 1 ∧ t_Machine_last K E { nx := fun _ H' => Q .non H', rt := Q } (start N_Machine_last vs) H
theorem sc_Machine_last : FnScope N_Machine_last ["self"] (defScope s_Machine_last) := ⟨rfl, rfl, rfl, by decide +kernel, rfl, by decide +kernel, by decide +kernel⟩
theorem ok_Machine_last (T : Txt PROG K mg) : ∃ fd, FnOk PROG w K mg base (L2.CX PROG w) 1 (Rz.pP "Machine" "last" K) fd ["self"] (sp_Machine_last K) ∧ FunD K "last" "Machine.last" (defArgs s_Machine_last) (defBody s_Machine_last) (defScope s_Machine_last) [] [] (Rz.pP "Machine" "last" K) fd := by
  obtain ⟨fd, F⟩ := T.F_Machine_last
  refine ⟨fd, F.ok sc_Machine_last (fun vs H Q E h => h.1) (fun cdv A outer s H vs Q E hr h => ⟨t_Machine_last K E, ?_, h.2⟩), F⟩
  exact (pss_one (ps_ret (pe_callTy c_list rfl T.f_list (by decide +kernel) (pa_cons (pe_fld (pv 0) rfl) pa_nil))))
/-! _law_is_int -/
abbrev N_law_is_int : List Str := ["_law_value"]
def t_law_is_int (K : Frg) (E : XK) : TS :=
  (tRet (tAndV (tCB (rIsiA K) (tCons (tVar 0) (tCons (tC (.ty "int")) tNil))) (tNotV (tCB (rIsiA K) (tCons (tVar 0) (tCons (tC (.ty "bool")) tNil))))))
def sp_law_is_int (K : Frg) : Sp := fun vs H Q E => vs.length = 1 ∧ t_law_is_int K E { nx := fun _ H' => Q .non H', rt := Q } (start N_law_is_int vs) H
theorem sc_law_is_int : FnScope N_law_is_int ["_law_value"] (defScope s_law_is_int) := ⟨rfl, rfl, rfl, by decide +kernel, rfl, by decide +kernel, by decide +kernel⟩
theorem ok_law_is_int (T : Txt PROG K mg) : ∃ fd, FnOk PROG w K mg base (L2.CX PROG w) 1 (Rz.pG "_law_is_int" K) fd ["_law_value"] (sp_law_is_int K) ∧ FunD K "_law_is_int" "_law_is_int" (defArgs s_law_is_int) (defBody s_law_is_int) (defScope s_law_is_int) [] [] (Rz.pG "_law_is_int" K) fd := by
  obtain ⟨fd, F⟩ := T.F_law_is_int
  refine ⟨fd, F.ok sc_law_is_int (fun vs H Q E h => h.1) (fun cdv A outer s H vs Q E hr h => ⟨t_law_is_int K E, ?_, h.2⟩), F⟩
  exact (pss_one (ps_ret (pe_and (pe_callB c_isi rfl T.f_isinstance (by decide +kernel) (pa_cons (pv 0) (pa_cons (pe_bltn rfl T.f_int (by decide +kernel) rfl) pa_nil))) (pe_one (pe_not (pe_callB c_isi rfl T.f_isinstance (by decide +kernel) (pa_cons (pv 0) (pa_cons (pe_bltn rfl T.f_bool (by decide +kernel) rfl) pa_nil))))))))
/-! Machine.states -/
abbrev N_Machine_states : List Str := ["self"]
def t_Machine_states (K : Frg) (E : XK) : TS :=
  (tRet (tFld K (tVar 0) "many"))
def sp_Machine_states (K : Frg) : Sp := fun vs H Q E => vs.length = 1 ∧ t_Machine_states K E { nx := fun _ H' => Q .non H', rt := Q } (start N_Machine_states vs) H
theorem sc_Machine_states : FnScope N_Machine_states ["self"] (defScope s_Machine_states) := ⟨rfl, rfl, rfl, by decide +kernel, rfl, by decide +kernel, by decide +kernel⟩
theorem ok_Machine_states (T : Txt PROG K mg) : ∃ fd, FnOk PROG w K mg base (L2.CX PROG w) 1 (Rz.pP "Machine" "states" K) fd ["self"] (sp_Machine_states K) ∧ FunD K "states" "Machine.states" (defArgs s_Machine_states) (defBody s_Machine_states) (defScope s_Machine_states) [] [] (Rz.pP "Machine" "states" K) fd := by
  obtain ⟨fd, F⟩ := T.F_Machine_states
  refine ⟨fd, F.ok sc_Machine_states (fun vs H Q E h => h.1) (fun cdv A outer s H vs Q E hr h => ⟨t_Machine_states K E, ?_, h.2⟩), F⟩
  exact (pss_one (ps_ret (pe_fld (pv 0) rfl)))
/-! Machine.edges -/
abbrev N_Machine_edges : List Str := ["self", "arc"]
def t_Machine_edges (K : Frg) (E : XK) : TGn :=
  (tGThen (tGFor (iList K (tFld K (tVar 0) "arcs")) (gName 1) (tGThen (tGYield (tVar 1)) tG0)) tG0)
def sp_Machine_edges (K : Frg) : SpG := fun vs H Q E => vs.length = 1 ∧ t_Machine_edges K E { nx := fun ys _ H' => Q ys H', rt := fun ys v H' => v = .non ∧ Q ys H' } [] (start N_Machine_edges vs) H
theorem sc_Machine_edges : GScope N_Machine_edges ["self"] (defScope s_Machine_edges) := ⟨rfl, rfl, rfl, by decide +kernel, rfl, by decide +kernel, by decide +kernel⟩
theorem ok_Machine_edges (T : Txt PROG K mg) : ∃ fd, GFn PROG w K mg base 1 (Rz.pM "Machine" "edges" K) fd ["self"] (sp_Machine_edges K) ∧ FunD K "edges" "Machine.edges" (defArgs s_Machine_edges) (defBody s_Machine_edges) (defScope s_Machine_edges) [] [] (Rz.pM "Machine" "edges" K) fd := by
  obtain ⟨fd, F⟩ := T.F_Machine_edges
  refine ⟨fd, F.okGen sc_Machine_edges (fun vs H Q E h => h.1) (fun cdv A outer s H vs Q E pn hr h => ⟨t_Machine_edges K E, ?_, h.2⟩), F⟩
  exact (gss_cons (gs_for owns_gcx rfl (pi_list (pe_fld (pv 0) rfl)) (pg_name (i := 1) sc_Machine_edges.nd rfl (by first | exact Or.inl rfl | exact Or.inr rfl)) (gss_cons (gs_yield (pv 1)) gss_nil)) gss_nil)
/-! _law_unique -/
abbrev N_law_unique : List Str := ["_law_entries", "_law_found", "_law_entry"]
def t_law_unique (K : Frg) (E : XK) : TS :=
  (tSeq (tAsg (tLst tNil) (gName 1)) (tSeq (tFor (iList K (tCB (rSortedD K) (tCons (tVar 0) tNil))) (gName 2) (tIfS (tTest (tOp (rNotInD K) (tVar 2) (tVar 1))) (tDrop (tBM K "list" rAppend (tVar 1) (tCons (tVar 2) tNil))) tNext)) (tRet (tVar 1))))
def sp_law_unique (K : Frg) : Sp := fun vs H Q E => vs.length = 1 ∧ t_law_unique K E { nx := fun _ H' => Q .non H', rt := Q } (start N_law_unique vs) H
theorem sc_law_unique : FnScope N_law_unique ["_law_entries"] (defScope s_law_unique) := ⟨rfl, rfl, rfl, by decide +kernel, rfl, by decide +kernel, by decide +kernel⟩
theorem ok_law_unique (T : Txt PROG K mg) : ∃ fd, FnOk PROG w K mg base (L2.CX PROG w) 1 (Rz.pG "_law_unique" K) fd ["_law_entries"] (sp_law_unique K) ∧ FunD K "_law_unique" "_law_unique" (defArgs s_law_unique) (defBody s_law_unique) (defScope s_law_unique) [] [] (Rz.pG "_law_unique" K) fd := by
  obtain ⟨fd, F⟩ := T.F_law_unique
  refine ⟨fd, F.ok sc_law_unique (fun vs H Q E h => h.1) (fun cdv A outer s H vs Q E hr h => ⟨t_law_unique K E, ?_, h.2⟩), F⟩
  exact (pss_cons (ps_set (i := 1) sc_law_unique.nd rfl (by first | exact Or.inl rfl | exact Or.inr rfl) (pe_lst pa_nil)) (pss_cons (ps_for (passes_of rfl) rfl (pi_list (pe_callB (cr_sortedD hr.units) rfl T.f_sorted (by decide +kernel) (pa_cons (pv 0) pa_nil))) (pg_name (i := 2) sc_law_unique.nd rfl (by first | exact Or.inl rfl | exact Or.inr rfl)) (pss_one (ps_if (pt_cmpR (op_notInD (Room.u65 hr)) (pv 2) (pv 1) (by rfl)) (pss_one (ps_expr (pe_bm PySem.F.plainAttrs_list PySem.F.slot_list_append PySem.F.type_list_append mt_append (pv 1) (pa_cons (pv 2) pa_nil)))) pss_nil))) (pss_one (ps_ret (pv 1)))))
/-! Machine.free -/
abbrev N_Machine_free : List Str := ["self", "lead"]
def t_Machine_free (K : Frg) (E : XK) : TGn :=
  (tGThen (tGFor (iList K (tFld K (tVar 0) "leads")) (gName 1) (tGThen (tGYield (tVar 1)) tG0)) tG0)
def sp_Machine_free (K : Frg) : SpG := fun vs H Q E => vs.length = 1 ∧ t_Machine_free K E { nx := fun ys _ H' => Q ys H', rt := fun ys v H' => v = .non ∧ Q ys H' } [] (start N_Machine_free vs) H
theorem sc_Machine_free : GScope N_Machine_free ["self"] (defScope s_Machine_free) := ⟨rfl, rfl, rfl, by decide +kernel, rfl, by decide +kernel, by decide +kernel⟩
theorem ok_Machine_free (T : Txt PROG K mg) : ∃ fd, GFn PROG w K mg base 1 (Rz.pM "Machine" "free" K) fd ["self"] (sp_Machine_free K) ∧ FunD K "free" "Machine.free" (defArgs s_Machine_free) (defBody s_Machine_free) (defScope s_Machine_free) [] [] (Rz.pM "Machine" "free" K) fd := by
  obtain ⟨fd, F⟩ := T.F_Machine_free
  refine ⟨fd, F.okGen sc_Machine_free (fun vs H Q E h => h.1) (fun cdv A outer s H vs Q E pn hr h => ⟨t_Machine_free K E, ?_, h.2⟩), F⟩
  exact (gss_cons (gs_for owns_gcx rfl (pi_list (pe_fld (pv 0) rfl)) (pg_name (i := 1) sc_Machine_free.nd rfl (by first | exact Or.inl rfl | exact Or.inr rfl)) (gss_cons (gs_yield (pv 1)) gss_nil)) gss_nil)
/-! _law_fine -/
abbrev N_law_fine : List Str := ["_law_machine", "_law_many", "_law_last", "_law_edges", "_law_free", "_law_told", "_law_shown", "_law_edge", "_law_pair"]
def t_law_fine (K : Frg) (E : XK) : TS :=
  (tSeq (tAsg (tProp (He.ga K "Machine") (sp_Machine_last K) [] E0 (tVar 0)) (gName 5)) (tSeq (tIfS (tOr (tNot (tB (tCallSD (sp_law_is_int K) [] (WE (W0 E)) (tCons (tProp (He.ga K "Machine") (sp_Machine_states K) [] E0 (tVar 0)) tNil)))) (tOr (tTest (tOp (rNeA K) (tProp (He.ga K "Machine") (sp_Machine_states K) [] E0 (tVar 0)) (tVar 1))) (tOr (tNot (tB (tCB (rIsiA K) (tCons (tVar 5) (tCons (tC (.ty "list")) tNil))))) (tTest (tOp (rNeA K) (tVar 5) (tVar 2)))))) (tRet (tC (.bl false))) tNext) (tSeq (tAsg (tListG (tMethG (He.ga K "Machine") "edges" (sp_Machine_edges K) [] E0 (tVar 0) tNil)) (gName 6)) (tSeq (tIfS (tOr (tTest (tOp (rNeA K) (tVar 6) (tCallSD (sp_law_unique K) [] (WE (W0 E)) (tCons (tVar 3) tNil)))) (tTest (tOp (rNeA K) (tListG (tMethG (He.ga K "Machine") "free" (sp_Machine_free K) [] E0 (tVar 0) tNil)) (tCallSD (sp_law_unique K) [] (WE (W0 E)) (tCons (tLc (iList K (tVar 4)) (gName 8) (tTest (tOp (rNeA K) (tOp (rIx K) (tVar 8) (tC (.int 0))) (tOp (rIx K) (tVar 8) (tC (.int 1))))) (tVar 8) [8]) tNil))))) (tRet (tC (.bl false))) tNext) (tSeq (tFor (iList K (tVar 6)) (gName 7) (tIfS (tOr (tNot (tB (tCB (rIsiA K) (tCons (tVar 7) (tCons (tC (.ty "tuple")) tNil))))) (tOr (tNot (tB (tCB (rIsiA K) (tCons (tOp (rIx K) (tVar 7) (tC (.int 1))) (tCons (tC (.ty "str")) tNil))))) (tNot (tB (tCallSD (sp_law_is_int K) [] (WE (W0 E)) (tCons (tOp (rIx K) (tVar 7) (tC (.int 2))) tNil)))))) (tRet (tC (.bl false))) tNext)) (tSeq (tFor (iList K (tListG (tMethG (He.ga K "Machine") "free" (sp_Machine_free K) [] E0 (tVar 0) tNil))) (gName 8) (tIfS (tNot (tB (tCB (rIsiA K) (tCons (tVar 8) (tCons (tC (.ty "tuple")) tNil))))) (tRet (tC (.bl false))) tNext)) (tSeq (tDrop (tBM K "list" rAppend (tVar 5) (tCons (tC (.int 0)) tNil))) (tRet (tOp (rEqA K) (tProp (He.ga K "Machine") (sp_Machine_last K) [] E0 (tVar 0)) (tVar 2))))))))))
def sp_law_fine (K : Frg) : Sp := fun vs H Q E => vs.length = 5 ∧ t_law_fine K E { nx := fun _ H' => Q .non H', rt := Q } (start N_law_fine vs) H
theorem sc_law_fine : FnScope N_law_fine ["_law_machine", "_law_many", "_law_last", "_law_edges", "_law_free"] (defScope s_law_fine) := ⟨rfl, rfl, rfl, by decide +kernel, rfl, by decide +kernel, by decide +kernel⟩
theorem ok_law_fine (T : Txt PROG K mg) : ∃ fd, FnOk PROG w K mg base (L2.CX PROG w) 5 (Rz.pG "_law_fine" K) fd ["_law_machine", "_law_many", "_law_last", "_law_edges", "_law_free"] (sp_law_fine K) ∧ FunD K "_law_fine" "_law_fine" (defArgs s_law_fine) (defBody s_law_fine) (defScope s_law_fine) [] [] (Rz.pG "_law_fine" K) fd := by
  obtain ⟨fd_Machine_last, G_Machine_last, D_Machine_last⟩ := ok_Machine_last (w := w) (base := base) T
  obtain ⟨fd_law_is_int, G_law_is_int, D_law_is_int⟩ := ok_law_is_int (w := w) (base := base) T
  obtain ⟨fd_Machine_states, G_Machine_states, D_Machine_states⟩ := ok_Machine_states (w := w) (base := base) T
  obtain ⟨fd_Machine_edges, G_Machine_edges, D_Machine_edges⟩ := ok_Machine_edges (w := w) (base := base) T
  obtain ⟨fd_law_unique, G_law_unique, D_law_unique⟩ := ok_law_unique (w := w) (base := base) T
  obtain ⟨fd_Machine_free, G_Machine_free, D_Machine_free⟩ := ok_Machine_free (w := w) (base := base) T
  have b_Machine_last_1 : Binds K fd_Machine_last _ [] := D_Machine_last.bindsN (ps := ["self"]) (fun _ _ _ _ _ _ us hl => match us, hl with | [_], _ => rfl)
  have b_law_is_int_1 : Binds K fd_law_is_int _ [] := D_law_is_int.bindsN (ps := ["_law_value"]) (fun _ _ _ _ _ _ us hl => match us, hl with | [_], _ => rfl)
  have b_Machine_states_1 : Binds K fd_Machine_states _ [] := D_Machine_states.bindsN (ps := ["self"]) (fun _ _ _ _ _ _ us hl => match us, hl with | [_], _ => rfl)
  have b_Machine_edges_1 : Binds K fd_Machine_edges _ [] := D_Machine_edges.bindsN (ps := ["self"]) (fun _ _ _ _ _ _ us hl => match us, hl with | [_], _ => rfl)
  have b_law_unique_1 : Binds K fd_law_unique _ [] := D_law_unique.bindsN (ps := ["_law_entries"]) (fun _ _ _ _ _ _ us hl => match us, hl with | [_], _ => rfl)
  have b_Machine_free_1 : Binds K fd_Machine_free _ [] := D_Machine_free.bindsN (ps := ["self"]) (fun _ _ _ _ _ _ us hl => match us, hl with | [_], _ => rfl)
  obtain ⟨fd, F⟩ := T.F_law_fine
  refine ⟨fd, F.ok sc_law_fine (fun vs H Q E h => h.1) (fun cdv A outer s H vs Q E hr h => ⟨t_law_fine K E, ?_, h.2⟩), F⟩
  exact (pss_cons (ps_set (i := 5) sc_law_fine.nd rfl (by first | exact Or.inl rfl | exact Or.inr rfl) (pe_prop (pv 0) T.c_Machine T.p_Machine_last G_Machine_last (hr.mono (by decide)) b_Machine_last_1 .nil passL rfl)) (pss_cons (ps_if (PW.pt (pw_or (pt_not (pt_val (pe_callSD G_law_is_int (hr.mono (by decide)) rfl T.g__law_is_int D_law_is_int.kp b_law_is_int_1 .nil (fun σ => passAt (takes_of rfl rfl rfl rfl) σ) (pa_cons (pe_prop (pv 0) T.c_Machine T.p_Machine_states G_Machine_states (hr.mono (by decide)) b_Machine_states_1 .nil passL rfl) pa_nil)))) (pw_or (pt_cmpR (op_neA hr) (pe_prop (pv 0) T.c_Machine T.p_Machine_states G_Machine_states (hr.mono (by decide)) b_Machine_states_1 .nil passL rfl) (pv 1) (nomark _)) (pw_or (pt_not (pt_val (pe_callB c_isi rfl T.f_isinstance (by decide +kernel) (pa_cons (pv 5) (pa_cons (pe_bltn rfl T.f_list (by decide +kernel) rfl) pa_nil))))) (pw_or1 (pt_cmpR (op_neA hr) (pv 5) (pv 2) (nomark _))))))) (pss_one (ps_ret pe_bl)) pss_nil) (pss_cons (ps_set (i := 6) sc_law_fine.nd rfl (by first | exact Or.inl rfl | exact Or.inr rfl) (pe_listG (pgen_meth0 (pv 0) T.c_Machine T.m_Machine_edges G_Machine_edges (hr.mono (by decide)) b_Machine_edges_1 .nil) passesE0 nostopE0 (hr.mono (by decide)) rfl T.f_list (by decide +kernel))) (pss_cons (ps_if (PW.pt (pw_or (pt_cmpR (op_neA hr) (pv 6) (pe_callSD G_law_unique (hr.mono (by decide)) rfl T.g__law_unique D_law_unique.kp b_law_unique_1 .nil (fun σ => passAt (takes_of rfl rfl rfl rfl) σ) (pa_cons (pv 3) pa_nil)) (nomark _)) (pw_or1 (pt_cmpR (op_neA hr) (pe_listG (pgen_meth0 (pv 0) T.c_Machine T.m_Machine_free G_Machine_free (hr.mono (by decide)) b_Machine_free_1 .nil) passesE0 nostopE0 (hr.mono (by decide)) rfl T.f_list (by decide +kernel)) (pe_callSD G_law_unique (hr.mono (by decide)) rfl T.g__law_unique D_law_unique.kp b_law_unique_1 .nil (fun σ => passAt (takes_of rfl rfl rfl rfl) σ) (pa_cons (pe_lc (own := [("_law_pair", 8)]) rfl sc_law_fine.nd (pi_list (pv 4)) (blkOk_by (own := [("_law_pair", 8)]) (N := N_law_fine) (sc := defScope s_law_fine) (by decide +kernel)) (fun _ _ _ _ _ => (pg_name (i := 8) sc_law_fine.nd rfl (by first | exact Or.inl rfl | exact Or.inr rfl))) (fun _ _ _ _ _ => (pts_one (pt_cmpR (op_neA hr) (pe_ix ix_seq (pv 8) pe_int (fun _ _ => rfl)) (pe_ix ix_seq (pv 8) pe_int (fun _ _ => rfl)) (nomark _)))) (fun _ _ _ _ _ => (pv 8))) pa_nil)) (nomark _))))) (pss_one (ps_ret pe_bl)) pss_nil) (pss_cons (ps_for (passes_of rfl) rfl (pi_list (pv 6)) (pg_name (i := 7) sc_law_fine.nd rfl (by first | exact Or.inl rfl | exact Or.inr rfl)) (pss_one (ps_if (PW.pt (pw_or (pt_not (pt_val (pe_callB c_isi rfl T.f_isinstance (by decide +kernel) (pa_cons (pv 7) (pa_cons (pe_bltn rfl T.f_tuple (by decide +kernel) rfl) pa_nil))))) (pw_or (pt_not (pt_val (pe_callB c_isi rfl T.f_isinstance (by decide +kernel) (pa_cons (pe_ix ix_seq (pv 7) pe_int (fun _ _ => rfl)) (pa_cons (pe_bltn rfl T.f_str (by decide +kernel) rfl) pa_nil))))) (pw_or1 (pt_not (pt_val (pe_callSD G_law_is_int (hr.mono (by decide)) rfl T.g__law_is_int D_law_is_int.kp b_law_is_int_1 .nil (fun σ => passAt (takes_of rfl rfl rfl rfl) σ) (pa_cons (pe_ix ix_seq (pv 7) pe_int (fun _ _ => rfl)) pa_nil)))))))) (pss_one (ps_ret pe_bl)) pss_nil))) (pss_cons (ps_for (passes_of rfl) rfl (pi_list (pe_listG (pgen_meth0 (pv 0) T.c_Machine T.m_Machine_free G_Machine_free (hr.mono (by decide)) b_Machine_free_1 .nil) passesE0 nostopE0 (hr.mono (by decide)) rfl T.f_list (by decide +kernel))) (pg_name (i := 8) sc_law_fine.nd rfl (by first | exact Or.inl rfl | exact Or.inr rfl)) (pss_one (ps_if (pt_not (pt_val (pe_callB c_isi rfl T.f_isinstance (by decide +kernel) (pa_cons (pv 8) (pa_cons (pe_bltn rfl T.f_tuple (by decide +kernel) rfl) pa_nil))))) (pss_one (ps_ret pe_bl)) pss_nil))) (pss_cons (ps_expr (pe_bm PySem.F.plainAttrs_list PySem.F.slot_list_append PySem.F.type_list_append mt_append (pv 5) (pa_cons pe_int pa_nil))) (pss_one (ps_ret (pe_cmpR (op_eqA hr) (pe_prop (pv 0) T.c_Machine T.p_Machine_last G_Machine_last (hr.mono (by decide)) b_Machine_last_1 .nil passL rfl) (pv 2) (nomark _)))))))))))
/-! _law_spread -/
abbrev N_law_spread : List Str := ["_law_arrows", "_law_states", "_law_found", "_law_queue", "_law_state"]
def t_law_spread (K : Frg) (E : XK) : TS :=
  (tSeq (tAsg tDNewK (gName 2)) (tSeq (tAsg (tCB (rListA K) (tCons (tVar 1) tNil)) (gName 3)) (tSeq (tWhile (tTest (tOp (rNeA K) (tVar 3) (tLst tNil))) (tSeq (tAsg (tBM0 K "list" rPop (tVar 3)) (gName 4)) (tIfS (tB (tDNotIn (tVar 4) (tVar 2))) (tSeq (sDPut (tVar 2) (tVar 4) (tC (.bl true))) (tDrop (tBM K "list" rExtend (tVar 3) (tCons (tDGet2 (tVar 0) (tVar 4) (tLst tNil)) tNil)))) tNext))) (tRet (tCB (rSortedD K) (tCons (tCB rListDk (tCons (tVar 2) tNil)) tNil))))))
def sp_law_spread (K : Frg) : Sp := fun vs H Q E => vs.length = 2 ∧ t_law_spread K E { nx := fun _ H' => Q .non H', rt := Q } (start N_law_spread vs) H
theorem sc_law_spread : FnScope N_law_spread ["_law_arrows", "_law_states"] (defScope s_law_spread) := ⟨rfl, rfl, rfl, by decide +kernel, rfl, by decide +kernel, by decide +kernel⟩
theorem ok_law_spread (T : Txt PROG K mg) : ∃ fd, FnOk PROG w K mg base (L2.CX PROG w) 1 (Rz.pG "_law_spread" K) fd ["_law_arrows", "_law_states"] (sp_law_spread K) ∧ FunD K "_law_spread" "_law_spread" (defArgs s_law_spread) (defBody s_law_spread) (defScope s_law_spread) [] [] (Rz.pG "_law_spread" K) fd := by
  obtain ⟨fd, F⟩ := T.F_law_spread
  refine ⟨fd, F.ok sc_law_spread (fun vs H Q E h => h.1) (fun cdv A outer s H vs Q E hr h => ⟨t_law_spread K E, ?_, h.2⟩), F⟩
  exact (pss_cons (ps_set (i := 2) sc_law_spread.nd rfl (by first | exact Or.inl rfl | exact Or.inr rfl) pe_dnewK) (pss_cons (ps_set (i := 3) sc_law_spread.nd rfl (by first | exact Or.inl rfl | exact Or.inr rfl) (pe_callTy c_list rfl T.f_list (by decide +kernel) (pa_cons (pv 1) pa_nil))) (pss_cons (ps_while (passes_of rfl) (pt_cmpR (op_neA hr) (pv 3) (pe_lst pa_nil) (nomark _)) (pss_cons (ps_set (i := 4) sc_law_spread.nd rfl (by first | exact Or.inl rfl | exact Or.inr rfl) (pe_bm0 PySem.F.plainAttrs_list PySem.F.slot_list_pop PySem.F.type_list_pop mt_pop (pv 3))) (pss_one (ps_if (pt_cmp (pc_dnotin (Room.u1 hr) (pv 4) (pv 2)) (by rfl)) (pss_cons (ps_dput (Room.u1 hr) (pv 2) (pv 4) pe_bl rfl) (pss_one (ps_expr (pe_bm PySem.F.plainAttrs_list PySem.F.slot_list_extend PySem.F.type_list_extend mt_extend (pv 3) (pa_cons (pe_dget2 (Room.u1 hr) (pv 0) (pv 4) (pe_lst pa_nil) ⟨rfl, rfl, rfl, rfl⟩) pa_nil))))) pss_nil)))) (pss_one (ps_ret (pe_callB (cr_sortedD hr.units) rfl T.f_sorted (by decide +kernel) (pa_cons (pe_callTy (cr_listDk rfl) rfl T.f_list (by decide +kernel) (pa_cons (pv 2) pa_nil)) pa_nil)))))))
/-! _law_graph_of -/
abbrev N_law_graph_of : List Str := ["_law_many", "_law_edges", "_law_free", "_law_outs", "_law_onward", "_law_spreads", "_law_state", "_law_start", "_law_sign", "_law_height", "_law_goal", "_law_near"]
def t_law_graph_of (K : Frg) (E : XK) : TS :=
  (tSeq (tAsg tDNewK (gName 3)) (tSeq (tFor (iList K (tVar 1)) (gTup K 4 (gCons (gName 7) (gCons (gName 8) (gCons (gName 9) (gCons (gName 10) gNil))))) (tSeq (tAsg (tDSetd (tVar 3) (tVar 7) (tLst tNil)) (gName 11)) (tDrop (tBM K "list" rAppend (tVar 11) (tCons (tTup (tCons (tVar 8) (tCons (tVar 9) (tCons (tVar 10) tNil)))) tNil))))) (tSeq (tAsg tDNewK (gName 4)) (tSeq (tFor (iList K (tVar 2)) (gTup K 2 (gCons (gName 7) (gCons (gName 10) gNil))) (tSeq (tAsg (tDSetd (tVar 4) (tVar 7) (tLst tNil)) (gName 11)) (tDrop (tBM K "list" rAppend (tVar 11) (tCons (tVar 10) tNil))))) (tSeq (tAsg tDNewK (gName 5)) (tSeq (tFor (iRng1 (tCons (tVar 0) tNil)) (gName 6) (sDPut (tVar 5) (tVar 6) (tCallSD (sp_law_spread K) [] (WE (W0 E)) (tCons (tVar 4) (tCons (tLst (tCons (tVar 6) tNil)) tNil))))) (tRet (tTup (tCons (tVar 3) (tCons (tVar 5) tNil))))))))))
def sp_law_graph_of (K : Frg) : Sp := fun vs H Q E => vs.length = 3 ∧ t_law_graph_of K E { nx := fun _ H' => Q .non H', rt := Q } (start N_law_graph_of vs) H
theorem sc_law_graph_of : FnScope N_law_graph_of ["_law_many", "_law_edges", "_law_free"] (defScope s_law_graph_of) := ⟨rfl, rfl, rfl, by decide +kernel, rfl, by decide +kernel, by decide +kernel⟩
theorem ok_law_graph_of (T : Txt PROG K mg) : ∃ fd, FnOk PROG w K mg base (L2.CX PROG w) 2 (Rz.pG "_law_graph_of" K) fd ["_law_many", "_law_edges", "_law_free"] (sp_law_graph_of K) ∧ FunD K "_law_graph_of" "_law_graph_of" (defArgs s_law_graph_of) (defBody s_law_graph_of) (defScope s_law_graph_of) [] [] (Rz.pG "_law_graph_of" K) fd := by
  obtain ⟨fd_law_spread, G_law_spread, D_law_spread⟩ := ok_law_spread (w := w) (base := base) T
  have b_law_spread_2 : Binds K fd_law_spread _ [] := D_law_spread.bindsN (ps := ["_law_arrows", "_law_states"]) (fun _ _ _ _ _ _ us hl => match us, hl with | [_, _], _ => rfl)
  obtain ⟨fd, F⟩ := T.F_law_graph_of
  refine ⟨fd, F.ok sc_law_graph_of (fun vs H Q E h => h.1) (fun cdv A outer s H vs Q E hr h => ⟨t_law_graph_of K E, ?_, h.2⟩), F⟩
  exact (pss_cons (ps_set (i := 3) sc_law_graph_of.nd rfl (by first | exact Or.inl rfl | exact Or.inr rfl) pe_dnewK) (pss_cons (ps_for (passes_of rfl) rfl (pi_list (pv 1)) (pg_tup rfl (pgs_cons (pg_name (i := 7) sc_law_graph_of.nd rfl (by first | exact Or.inl rfl | exact Or.inr rfl)) (pgs_cons (pg_name (i := 8) sc_law_graph_of.nd rfl (by first | exact Or.inl rfl | exact Or.inr rfl)) (pgs_cons (pg_name (i := 9) sc_law_graph_of.nd rfl (by first | exact Or.inl rfl | exact Or.inr rfl)) (pgs_cons (pg_name (i := 10) sc_law_graph_of.nd rfl (by first | exact Or.inl rfl | exact Or.inr rfl)) pgs_nil))))) (pss_cons (ps_set (i := 11) sc_law_graph_of.nd rfl (by first | exact Or.inl rfl | exact Or.inr rfl) (pe_dsetd (pv 3) (pv 7) (pe_lst pa_nil) ⟨rfl, rfl, rfl, rfl⟩)) (pss_one (ps_expr (pe_bm PySem.F.plainAttrs_list PySem.F.slot_list_append PySem.F.type_list_append mt_append (pv 11) (pa_cons (pe_tup (pa_cons (pv 8) (pa_cons (pv 9) (pa_cons (pv 10) pa_nil)))) pa_nil)))))) (pss_cons (ps_set (i := 4) sc_law_graph_of.nd rfl (by first | exact Or.inl rfl | exact Or.inr rfl) pe_dnewK) (pss_cons (ps_for (passes_of rfl) rfl (pi_list (pv 2)) (pg_tup rfl (pgs_cons (pg_name (i := 7) sc_law_graph_of.nd rfl (by first | exact Or.inl rfl | exact Or.inr rfl)) (pgs_cons (pg_name (i := 10) sc_law_graph_of.nd rfl (by first | exact Or.inl rfl | exact Or.inr rfl)) pgs_nil))) (pss_cons (ps_set (i := 11) sc_law_graph_of.nd rfl (by first | exact Or.inl rfl | exact Or.inr rfl) (pe_dsetd (pv 4) (pv 7) (pe_lst pa_nil) ⟨rfl, rfl, rfl, rfl⟩)) (pss_one (ps_expr (pe_bm PySem.F.plainAttrs_list PySem.F.slot_list_append PySem.F.type_list_append mt_append (pv 11) (pa_cons (pv 10) pa_nil)))))) (pss_cons (ps_set (i := 5) sc_law_graph_of.nd rfl (by first | exact Or.inl rfl | exact Or.inr rfl) pe_dnewK) (pss_cons (ps_for (passes_of rfl) rfl (pi_range1 rfl T.f_range (pa_cons (pv 0) pa_nil)) (pg_name (i := 6) sc_law_graph_of.nd rfl (by first | exact Or.inl rfl | exact Or.inr rfl)) (pss_one (ps_dput (Room.u1 hr) (pv 5) (pv 6) (pe_callSD G_law_spread (hr.mono (by decide)) rfl T.g__law_spread D_law_spread.kp b_law_spread_2 .nil (fun σ => passAt (takes_of rfl rfl rfl rfl) σ) (pa_cons (pv 4) (pa_cons (pe_lst (pa_cons (pv 6) pa_nil)) pa_nil))) rfl))) (pss_one (ps_ret (pe_tup (pa_cons (pv 3) (pa_cons (pv 5) pa_nil)))))))))))
/-! _law_walk_on -/
abbrev N_law_walk_on : List Str := ["_law_draws", "_law_edges", "_law_start", "_law_signs", "_law_pairs", "_law_size", "_law_state", "_law_k", "_law_near", "_law_edge"]
def t_law_walk_on (K : Frg) (E : XK) : TS :=
  (tSeq (tAsg (tLst tNil) (gName 4)) (tSeq (tAsg (tCallSD (sp_law_pick K) [] (WE (W0 E)) (tCons (tVar 0) (tCons (tC (.int 7)) tNil))) (gName 5)) (tSeq (tIfS (tTest (tOp (rEqA K) (tCallSD (sp_law_pick K) [] (WE (W0 E)) (tCons (tVar 0) (tCons (tC (.int 3)) tNil))) (tC (.int 0)))) (tRet (tLc (iRng1 (tCons (tVar 5) tNil)) (gName 7) tYes (tTup (tCons (tOp (rIx K) (tVar 3) (tCallSD (sp_law_pick K) [] (WE WN) (tCons (tVar 0) (tCons (tC (.int 2)) tNil)))) (tCons (tCallSD (sp_law_pick K) [] (WE WN) (tCons (tVar 0) (tCons (tC (.int 10)) tNil))) tNil))) [7])) tNext) (tSeq (tAsg (tVar 2) (gName 6)) (tSeq (tFor (iRng1 (tCons (tVar 5) tNil)) (gName 7) (tSeq (tAsg (tLc (iList K (tVar 1)) (gName 9) (tTest (tOp (rEqA K) (tOp (rIx K) (tVar 9) (tC (.int 0))) (tVar 6))) (tVar 9) [9]) (gName 8)) (tSeq (tIfS (tAnd (tTest (tOp (rEqA K) (tVar 8) (tLst tNil))) (tTest (tOp (rNeA K) (tVar 1) (tLst tNil)))) (tAsg (tVar 1) (gName 8)) tNext) (tIfS (tTest (tOp (rNeA K) (tVar 8) (tLst tNil))) (tSeq (tAsg (tOp (rIx K) (tVar 8) (tCallSD (sp_law_pick K) [] (WE (W0 E)) (tCons (tVar 0) (tCons (tCB (rLenA K) (tCons (tVar 8) tNil)) tNil)))) (gName 9)) (tSeq (tDrop (tBM K "list" rAppend (tVar 4) (tCons (tTup (tCons (tOp (rIx K) (tVar 9) (tC (.int 1))) (tCons (tOp (rIx K) (tVar 9) (tC (.int 2))) tNil))) tNil))) (tAsg (tOp (rIx K) (tVar 9) (tC (.int 3))) (gName 6)))) tNext)))) (tRet (tVar 4)))))))
def sp_law_walk_on (K : Frg) : Sp := fun vs H Q E => vs.length = 4 ∧ t_law_walk_on K E { nx := fun _ H' => Q .non H', rt := Q } (start N_law_walk_on vs) H
theorem sc_law_walk_on : FnScope N_law_walk_on ["_law_draws", "_law_edges", "_law_start", "_law_signs"] (defScope s_law_walk_on) := ⟨rfl, rfl, rfl, by decide +kernel, rfl, by decide +kernel, by decide +kernel⟩
theorem ok_law_walk_on (T : Txt PROG K mg) : ∃ fd, FnOk PROG w K mg base (L2.CX PROG w) 2 (Rz.pG "_law_walk_on" K) fd ["_law_draws", "_law_edges", "_law_start", "_law_signs"] (sp_law_walk_on K) ∧ FunD K "_law_walk_on" "_law_walk_on" (defArgs s_law_walk_on) (defBody s_law_walk_on) (defScope s_law_walk_on) [] [] (Rz.pG "_law_walk_on" K) fd := by
  obtain ⟨fd_law_pick, G_law_pick, D_law_pick⟩ := ok_law_pick (w := w) (base := base) T
  have b_law_pick_2 : Binds K fd_law_pick _ [] := D_law_pick.bindsN (ps := ["_law_draws", "_law_many"]) (fun _ _ _ _ _ _ us hl => match us, hl with | [_, _], _ => rfl)
  obtain ⟨fd, F⟩ := T.F_law_walk_on
  refine ⟨fd, F.ok sc_law_walk_on (fun vs H Q E h => h.1) (fun cdv A outer s H vs Q E hr h => ⟨t_law_walk_on K E, ?_, h.2⟩), F⟩
  exact (pss_cons (ps_set (i := 4) sc_law_walk_on.nd rfl (by first | exact Or.inl rfl | exact Or.inr rfl) (pe_lst pa_nil)) (pss_cons (ps_set (i := 5) sc_law_walk_on.nd rfl (by first | exact Or.inl rfl | exact Or.inr rfl) (pe_callSD G_law_pick (hr.mono (by decide)) rfl T.g__law_pick D_law_pick.kp b_law_pick_2 .nil (fun σ => passAt (takes_of rfl rfl rfl rfl) σ) (pa_cons (pv 0) (pa_cons pe_int pa_nil)))) (pss_cons (ps_if (pt_cmpR (op_eqA hr) (pe_callSD G_law_pick (hr.mono (by decide)) rfl T.g__law_pick D_law_pick.kp b_law_pick_2 .nil (fun σ => passAt (takes_of rfl rfl rfl rfl) σ) (pa_cons (pv 0) (pa_cons pe_int pa_nil))) pe_int (nomark _)) (pss_one (ps_ret (pe_lc (own := [("_law_k", 7)]) rfl sc_law_walk_on.nd (pi_range1 rfl T.f_range (pa_cons (pv 5) pa_nil)) (blkOk_by (own := [("_law_k", 7)]) (N := N_law_walk_on) (sc := defScope s_law_walk_on) (by decide +kernel)) (fun _ _ _ _ _ => (pg_name (i := 7) sc_law_walk_on.nd rfl (by first | exact Or.inl rfl | exact Or.inr rfl))) (fun _ _ _ _ _ => pts_nil) (fun _ _ _ _ _ => (pe_tup (pa_cons (pe_ix ix_seq (pv 3) (pe_callSD G_law_pick (hr.mono (by decide)) rfl T.g__law_pick D_law_pick.kp b_law_pick_2 .nil (fun σ => passAt takes0 σ) (pa_cons (pv 0) (pa_cons pe_int pa_nil))) (fun _ _ => rfl)) (pa_cons (pe_callSD G_law_pick (hr.mono (by decide)) rfl T.g__law_pick D_law_pick.kp b_law_pick_2 .nil (fun σ => passAt takes0 σ) (pa_cons (pv 0) (pa_cons pe_int pa_nil))) pa_nil))))))) pss_nil) (pss_cons (ps_set (i := 6) sc_law_walk_on.nd rfl (by first | exact Or.inl rfl | exact Or.inr rfl) (pv 2)) (pss_cons (ps_for (passes_of rfl) rfl (pi_range1 rfl T.f_range (pa_cons (pv 5) pa_nil)) (pg_name (i := 7) sc_law_walk_on.nd rfl (by first | exact Or.inl rfl | exact Or.inr rfl)) (pss_cons (by first | (refine ps_setLc (i := 8) (own := [("_law_edge", 9)]) rfl sc_law_walk_on.nd rfl rfl ?e ?f ?g ?h ?i ?j; (case e => exact sw_true rfl rfl rfl (by decide +kernel)); (case f => exact (pi_list (pv 1))); (case g => exact (blkOk_by (own := [("_law_edge", 9)]) (N := N_law_walk_on) (sc := defScope s_law_walk_on) (by decide +kernel))); (case h => exact (fun _ _ _ _ _ => (pg_name (i := 9) sc_law_walk_on.nd rfl (by first | exact Or.inl rfl | exact Or.inr rfl)))); (case i => exact (fun _ _ _ _ _ => (pts_one (pt_cmpR (op_eqA hr) (pe_ix ix_seq (pv 9) pe_int (fun _ _ => rfl)) (pv 6) (nomark _))))); (case j => exact (fun _ _ _ _ _ => (pv 9)))) | exact (ps_set (i := 8) sc_law_walk_on.nd rfl (by first | exact Or.inl rfl | exact Or.inr rfl) (pe_lc (own := [("_law_edge", 9)]) rfl sc_law_walk_on.nd (pi_list (pv 1)) (blkOk_by (own := [("_law_edge", 9)]) (N := N_law_walk_on) (sc := defScope s_law_walk_on) (by decide +kernel)) (fun _ _ _ _ _ => (pg_name (i := 9) sc_law_walk_on.nd rfl (by first | exact Or.inl rfl | exact Or.inr rfl))) (fun _ _ _ _ _ => (pts_one (pt_cmpR (op_eqA hr) (pe_ix ix_seq (pv 9) pe_int (fun _ _ => rfl)) (pv 6) (nomark _)))) (fun _ _ _ _ _ => (pv 9))))) (pss_cons (ps_if (PW.pt (pw_and (pt_cmpR (op_eqA hr) (pv 8) (pe_lst pa_nil) (nomark _)) (pw_and1 (pt_cmpR (op_neA hr) (pv 1) (pe_lst pa_nil) (nomark _))))) (pss_one (ps_set (i := 8) sc_law_walk_on.nd rfl (by first | exact Or.inl rfl | exact Or.inr rfl) (pv 1))) pss_nil) (pss_one (ps_if (pt_cmpR (op_neA hr) (pv 8) (pe_lst pa_nil) (nomark _)) (pss_cons (ps_set (i := 9) sc_law_walk_on.nd rfl (by first | exact Or.inl rfl | exact Or.inr rfl) (pe_ix ix_seq (pv 8) (pe_callSD G_law_pick (hr.mono (by decide)) rfl T.g__law_pick D_law_pick.kp b_law_pick_2 .nil (fun σ => passAt (takes_of rfl rfl rfl rfl) σ) (pa_cons (pv 0) (pa_cons (pe_callB c_len rfl T.f_len (by decide +kernel) (pa_cons (pv 8) pa_nil)) pa_nil))) (fun _ _ => rfl))) (pss_cons (ps_expr (pe_bm PySem.F.plainAttrs_list PySem.F.slot_list_append PySem.F.type_list_append mt_append (pv 4) (pa_cons (pe_tup (pa_cons (pe_ix ix_seq (pv 9) pe_int (fun _ _ => rfl)) (pa_cons (pe_ix ix_seq (pv 9) pe_int (fun _ _ => rfl)) pa_nil))) pa_nil))) (pss_one (ps_set (i := 6) sc_law_walk_on.nd rfl (by first | exact Or.inl rfl | exact Or.inr rfl) (pe_ix ix_seq (pv 9) pe_int (fun _ _ => rfl)))))) pss_nil))))) (pss_one (ps_ret (pv 4))))))))
/-! as_string -/
abbrev N_as_string : List Str := ["text"]
def t_as_string (K : Frg) (E : XK) : TS :=
  (tSeq (tIfS (tB (tCB (rIsiA K) (tCons (tVar 0) (tCons (tC (.ty "bytes")) tNil)))) (tRet tDeadE) tNext) (tRet (tVar 0)))
def sp_as_string (K : Frg) : Sp := fun vs H Q E => vs.length = 1 ∧ t_as_string K E { nx := fun _ H' => Q .non H', rt := Q } (start N_as_string vs) H
theorem sc_as_string : FnScope N_as_string ["text"] (defScope s_as_string) := ⟨rfl, rfl, rfl, by decide +kernel, rfl, by decide +kernel, by decide +kernel⟩
theorem ok_as_string (T : Txt PROG K mg) : ∃ fd, FnOk PROG w K mg base (L2.CX PROG w) 1 (Rz.pG "as_string" K) fd ["text"] (sp_as_string K) ∧ FunD K "as_string" "as_string" (defArgs s_as_string) (defBody s_as_string) (defScope s_as_string) [] [] (Rz.pG "as_string" K) fd := by
  obtain ⟨fd, F⟩ := T.F_as_string
  refine ⟨fd, F.ok sc_as_string (fun vs H Q E h => h.1) (fun cdv A outer s H vs Q E hr h => ⟨t_as_string K E, ?_, h.2⟩), F⟩
  exact (pss_cons (ps_if (pt_val (pe_callB c_isi rfl T.f_isinstance (by decide +kernel) (pa_cons (pv 0) (pa_cons (pe_bltn rfl T.f_bytes (by decide +kernel) rfl) pa_nil)))) (pss_one (ps_ret pe_dead)) pss_nil) (pss_one (ps_ret (pv 0))))
/-! check_text -/
abbrev N_check_text : List Str := ["text", "at", "sign"]
def t_check_text (K : Frg) (E : XK) : TS :=
  (tFor (iEnumS (tCons (tVar 0) tNil)) (gTup K 2 (gCons (gName 1) (gCons (gName 2) gNil))) (tIfS (tTest (tOp (rNotInA K) (tVar 2) (tC (.str "abcdefghijklmnopqrstuvwxyz")))) (tRaise (tMkX (He.ga K "BadSign") "at" (tCons (tVar 1) tNil)) (W0 E)) tNext))
def sp_check_text (K : Frg) : Sp := fun vs H Q E => vs.length = 1 ∧ t_check_text K E { nx := fun _ H' => Q .non H', rt := Q } (start N_check_text vs) H
theorem sc_check_text : FnScope N_check_text ["text"] (defScope s_check_text) := ⟨rfl, rfl, rfl, by decide +kernel, rfl, by decide +kernel, by decide +kernel⟩
theorem ok_check_text (T : Txt PROG K mg) : ∃ fd, FnOk PROG w K mg base (L2.CX PROG w) 1 (Rz.pG "check_text" K) fd ["text"] (sp_check_text K) ∧ FunD K "check_text" "check_text" (defArgs s_check_text) (defBody s_check_text) (defScope s_check_text) [] [] (Rz.pG "check_text" K) fd := by
  obtain ⟨fd, F⟩ := T.F_check_text
  refine ⟨fd, F.ok sc_check_text (fun vs H Q E h => h.1) (fun cdv A outer s H vs Q E hr h => ⟨t_check_text K E, ?_, h.2⟩), F⟩
  exact (pss_one (ps_for (passes_of rfl) rfl (pi_enumS rfl T.f_enumerate (pa_cons (pv 0) pa_nil)) (pg_tup rfl (pgs_cons (pg_name (i := 1) sc_check_text.nd rfl (by first | exact Or.inl rfl | exact Or.inr rfl)) (pgs_cons (pg_name (i := 2) sc_check_text.nd rfl (by first | exact Or.inl rfl | exact Or.inr rfl)) pgs_nil))) (pss_one (ps_if (pt_cmpR op_notInA (pv 2) (pe_gstr rfl T.k_SIGNS) (by rfl)) (pss_one (ps_raise rfl (takes_of rfl rfl rfl rfl) (pmk_sup1 T.x_BadSign T.f_super hr rfl T.g_BadSign (pa_cons (pv 1) pa_nil)))) pss_nil))))
/-! Row.__init__ -/
abbrev N_Row_init : List Str := ["self", "text", "heights", "signs", "height"]
def t_Row_init (K : Frg) (E : XK) : TS :=
  (tSeq (tAsg (tCallSD (sp_as_string K) [] (WE (W0 E)) (tCons (tVar 1) tNil)) (gName 3)) (tSeq (tDrop (tCallSD (sp_check_text K) [] (WE (W0 E)) (tCons (tVar 3) tNil))) (tSeq (tIfS (tTest (tOp rIsN' (tVar 2) (tC .non))) (tAsg (tOp rMulA (tLst (tCons (tC (.int 0)) tNil)) (tCB (rLenA K) (tCons (tVar 3) tNil))) (gName 2)) tNext) (tSeq (tIfS (tTest (tOp (rNeA K) (tCB (rLenA K) (tCons (tVar 2) tNil)) (tCB (rLenA K) (tCons (tVar 3) tNil)))) (tRaise (tMkX0 (He.ga K "Uneven")) (W0 E)) tNext) (tSeq (tFor (iList K (tVar 2)) (gName 4) (tIfS (tNot (tTest (tChain rLeA rLeA (tC (.int 0)) (tVar 4) (tC (.int 9))))) (tRaise (tMkX (He.ga K "BadHeight") "height" (tCons (tVar 4) tNil)) (W0 E)) tNext)) (sFld K (tVar 0) (tZipS K (tCons (tVar 3) (tCons (tVar 2) tNil))) "pairs"))))))
def sp_Row_init (K : Frg) : Sp := fun vs H Q E => vs.length = 3 ∧ t_Row_init K E { nx := fun _ H' => Q .non H', rt := Q } (start N_Row_init vs) H
theorem sc_Row_init : FnScope N_Row_init ["self", "text", "heights"] (defScope s_Row_init) := ⟨rfl, rfl, rfl, by decide +kernel, rfl, by decide +kernel, by decide +kernel⟩
theorem ok_Row_init (T : Txt PROG K mg) : ∃ fd, FnOk PROG w K mg base (L2.CX PROG w) 2 (Rz.pM "Row" "__init__" K) fd ["self", "text", "heights"] (sp_Row_init K) ∧ FunD K "__init__" "Row.__init__" (defArgs s_Row_init) (defBody s_Row_init) (defScope s_Row_init) [.str "", .non] [] (Rz.pM "Row" "__init__" K) fd := by
  obtain ⟨fd_as_string, G_as_string, D_as_string⟩ := ok_as_string (w := w) (base := base) T
  obtain ⟨fd_check_text, G_check_text, D_check_text⟩ := ok_check_text (w := w) (base := base) T
  have b_as_string_1 : Binds K fd_as_string _ [] := D_as_string.bindsN (ps := ["text"]) (fun _ _ _ _ _ _ us hl => match us, hl with | [_], _ => rfl)
  have b_check_text_1 : Binds K fd_check_text _ [] := D_check_text.bindsN (ps := ["text"]) (fun _ _ _ _ _ _ us hl => match us, hl with | [_], _ => rfl)
  obtain ⟨fd, F⟩ := T.F_Row_init
  refine ⟨fd, F.ok sc_Row_init (fun vs H Q E h => h.1) (fun cdv A outer s H vs Q E hr h => ⟨t_Row_init K E, ?_, h.2⟩), F⟩
  exact (pss_cons (ps_set (i := 3) sc_Row_init.nd rfl (by first | exact Or.inl rfl | exact Or.inr rfl) (pe_callSD G_as_string (hr.mono (by decide)) rfl T.g_as_string D_as_string.kp b_as_string_1 .nil (fun σ => passAt (takes_of rfl rfl rfl rfl) σ) (pa_cons (pv 1) pa_nil))) (pss_cons (ps_expr (pe_callSD G_check_text (hr.mono (by decide)) rfl T.g_check_text D_check_text.kp b_check_text_1 .nil (fun σ => passAt (takes_of rfl rfl rfl rfl) σ) (pa_cons (pv 3) pa_nil))) (pss_cons (ps_if (pt_cmpR op_isA (pv 2) pe_non (nomark _)) (pss_one (ps_set (i := 2) sc_Row_init.nd rfl (by first | exact Or.inl rfl | exact Or.inr rfl) (pe_op op_mulA (pe_lst (pa_cons pe_int pa_nil)) (pe_callB c_len rfl T.f_len (by decide +kernel) (pa_cons (pv 3) pa_nil))))) pss_nil) (pss_cons (ps_if (pt_cmpR (op_neA hr) (pe_callB c_len rfl T.f_len (by decide +kernel) (pa_cons (pv 2) pa_nil)) (pe_callB c_len rfl T.f_len (by decide +kernel) (pa_cons (pv 3) pa_nil)) (nomark _)) (pss_one (ps_raise rfl (takes_of rfl rfl rfl rfl) (pmk_sup0 T.x_Uneven T.f_super hr rfl T.g_Uneven))) pss_nil) (pss_cons (ps_for (passes_of rfl) rfl (pi_list (pv 2)) (pg_name (i := 4) sc_Row_init.nd rfl (by first | exact Or.inl rfl | exact Or.inr rfl)) (pss_one (ps_if (pt_not (pt_chain op_leA op_leA pe_int (pv 4) (pe_gint rfl T.k_TOP))) (pss_one (ps_raise rfl (takes_of rfl rfl rfl rfl) (pmk_sup1 T.x_BadHeight T.f_super hr rfl T.g_BadHeight (pa_cons (pv 4) pa_nil)))) pss_nil))) (pss_one (ps_fld (pv 0) (pe_zipS rfl rfl T.f_list rfl T.f_zip (pa_cons (pv 3) (pa_cons (pv 2) pa_nil))) rfl)))))))
/-! _law_as_row -/
abbrev N_law_as_row : List Str := ["_law_pairs", "_law_pair"]
def t_law_as_row (K : Frg) (E : XK) : TS :=
  (tRet (tMakeS (He.ga K "Row") (sp_Row_init K) (List.drop 2 [.str "", .non]) (WE (W0 E)) (tCons (tM1 (rJoinA K) (tC (.str "")) (tLc (iList K (tVar 0)) (gName 1) tYes (tOp (rIx K) (tVar 1) (tC (.int 0))) [1])) (tCons (tLc (iList K (tVar 0)) (gName 1) tYes (tOp (rIx K) (tVar 1) (tC (.int 1))) [1]) tNil))))
def sp_law_as_row (K : Frg) : Sp := fun vs H Q E => vs.length = 1 ∧ t_law_as_row K E { nx := fun _ H' => Q .non H', rt := Q } (start N_law_as_row vs) H
theorem sc_law_as_row : FnScope N_law_as_row ["_law_pairs"] (defScope s_law_as_row) := ⟨rfl, rfl, rfl, by decide +kernel, rfl, by decide +kernel, by decide +kernel⟩
theorem ok_law_as_row (T : Txt PROG K mg) : ∃ fd, FnOk PROG w K mg base (L2.CX PROG w) 4 (Rz.pG "_law_as_row" K) fd ["_law_pairs"] (sp_law_as_row K) ∧ FunD K "_law_as_row" "_law_as_row" (defArgs s_law_as_row) (defBody s_law_as_row) (defScope s_law_as_row) [] [] (Rz.pG "_law_as_row" K) fd := by
  obtain ⟨fd_Row_init, G_Row_init, D_Row_init⟩ := ok_Row_init (w := w) (base := base) T
  obtain ⟨ds_Row_init_3, V_Row_init_3, b_Row_init_3⟩ := D_Row_init.binds1 (ps := ["self", "text", "heights"]) 3 2 (by simp) rfl (fun _ _ _ _ _ _ _ us its h1 h2 => match us, its, h1, h2 with | [_, _, _], [_, _], _, _ => ⟨_, rfl, rfl⟩)
  obtain ⟨fd, F⟩ := T.F_law_as_row
  refine ⟨fd, F.ok sc_law_as_row (fun vs H Q E h => h.1) (fun cdv A outer s H vs Q E hr h => ⟨t_law_as_row K E, ?_, h.2⟩), F⟩
  exact (pss_one (ps_ret (pe_makeS T.mk_Row G_Row_init (hr.mono (by decide)) rfl T.g_Row b_Row_init_3 V_Row_init_3 (fun σ => passAt (takes_of rfl rfl rfl rfl) σ) (pa_cons (pe_joinA pe_str (pe_lc (own := [("_law_pair", 1)]) rfl sc_law_as_row.nd (pi_list (pv 0)) (blkOk_by (own := [("_law_pair", 1)]) (N := N_law_as_row) (sc := defScope s_law_as_row) (by decide +kernel)) (fun _ _ _ _ _ => (pg_name (i := 1) sc_law_as_row.nd rfl (by first | exact Or.inl rfl | exact Or.inr rfl))) (fun _ _ _ _ _ => pts_nil) (fun _ _ _ _ _ => (pe_ix ix_seq (pv 1) pe_int (fun _ _ => rfl))))) (pa_cons (pe_lc (own := [("_law_pair", 1)]) rfl sc_law_as_row.nd (pi_list (pv 0)) (blkOk_by (own := [("_law_pair", 1)]) (N := N_law_as_row) (sc := defScope s_law_as_row) (by decide +kernel)) (fun _ _ _ _ _ => (pg_name (i := 1) sc_law_as_row.nd rfl (by first | exact Or.inl rfl | exact Or.inr rfl))) (fun _ _ _ _ _ => pts_nil) (fun _ _ _ _ _ => (pe_ix ix_seq (pv 1) pe_int (fun _ _ => rfl)))) pa_nil)))))
/-! reached -/
abbrev N_reached : List Str := ["starts", "arrows", "found", "queue", "state", "goal"]
def t_reached (K : Frg) (E : XK) : TS :=
  (tSeq (tAsg tDNewK (gName 2)) (tSeq (tAsg (tCB (rListA K) (tCons (tVar 0) tNil)) (gName 3)) (tSeq (tWhile (tTruth K (tVar 3)) (tSeq (tAsg (tBM0 K "list" rPop (tVar 3)) (gName 4)) (tIfS (tB (tDNotIn (tVar 4) (tVar 2))) (tSeq (sDPut (tVar 2) (tVar 4) (tC (.bl true))) (tDrop (tBM K "list" rExtend (tVar 3) (tCons (tLc (iList K (tDGet2 (tVar 1) (tVar 4) (tLst tNil))) (gName 5) (tB (tDNotIn (tVar 5) (tVar 2))) (tVar 5) [5]) tNil)))) tNext))) (tRet (tVar 2)))))
def sp_reached (K : Frg) : Sp := fun vs H Q E => vs.length = 2 ∧ t_reached K E { nx := fun _ H' => Q .non H', rt := Q } (start N_reached vs) H
theorem sc_reached : FnScope N_reached ["starts", "arrows"] (defScope s_reached) := ⟨rfl, rfl, rfl, by decide +kernel, rfl, by decide +kernel, by decide +kernel⟩
theorem ok_reached (T : Txt PROG K mg) : ∃ fd, FnOk PROG w K mg base (L2.CX PROG w) 1 (Rz.pG "reached" K) fd ["starts", "arrows"] (sp_reached K) ∧ FunD K "reached" "reached" (defArgs s_reached) (defBody s_reached) (defScope s_reached) [] [] (Rz.pG "reached" K) fd := by
  obtain ⟨fd, F⟩ := T.F_reached
  refine ⟨fd, F.ok sc_reached (fun vs H Q E h => h.1) (fun cdv A outer s H vs Q E hr h => ⟨t_reached K E, ?_, h.2⟩), F⟩
  exact (pss_cons (ps_set (i := 2) sc_reached.nd rfl (by first | exact Or.inl rfl | exact Or.inr rfl) pe_dnewK) (pss_cons (ps_set (i := 3) sc_reached.nd rfl (by first | exact Or.inl rfl | exact Or.inr rfl) (pe_callTy c_list rfl T.f_list (by decide +kernel) (pa_cons (pv 0) pa_nil))) (pss_cons (ps_while (passes_of rfl) (pt_truth (pv 3) (by intro _; rfl)) (pss_cons (ps_set (i := 4) sc_reached.nd rfl (by first | exact Or.inl rfl | exact Or.inr rfl) (pe_bm0 PySem.F.plainAttrs_list PySem.F.slot_list_pop PySem.F.type_list_pop mt_pop (pv 3))) (pss_one (ps_if (pt_cmp (pc_dnotin (Room.u1 hr) (pv 4) (pv 2)) (by rfl)) (pss_cons (ps_dput (Room.u1 hr) (pv 2) (pv 4) pe_bl rfl) (pss_one (ps_expr (pe_bm PySem.F.plainAttrs_list PySem.F.slot_list_extend PySem.F.type_list_extend mt_extend (pv 3) (pa_cons (pe_lc (own := [("goal", 5)]) rfl sc_reached.nd (pi_list (pe_dget2 (Room.u1 hr) (pv 1) (pv 4) (pe_lst pa_nil) ⟨rfl, rfl, rfl, rfl⟩)) (blkOk_by (own := [("goal", 5)]) (N := N_reached) (sc := defScope s_reached) (by decide +kernel)) (fun _ _ _ _ _ => (pg_name (i := 5) sc_reached.nd rfl (by first | exact Or.inl rfl | exact Or.inr rfl))) (fun _ _ _ _ _ => (pts_one (pt_cmp (pc_dnotin (Room.u1 hr) (pv 5) (pv 2)) (by rfl)))) (fun _ _ _ _ _ => (pv 5))) pa_nil))))) pss_nil)))) (pss_one (ps_ret (pv 2))))))
/-! Machine.spread -/
abbrev N_Machine_spread : List Str := ["self", "states"]
def t_Machine_spread (K : Frg) (E : XK) : TS :=
  (tRet (tCB (rSortedD K) (tCons (tCB rListDk (tCons (tCallSD (sp_reached K) [] (WE (W0 E)) (tCons (tVar 1) (tCons (tFld K (tVar 0) "onward") tNil))) tNil)) tNil)))
def sp_Machine_spread (K : Frg) : Sp := fun vs H Q E => vs.length = 2 ∧ t_Machine_spread K E { nx := fun _ H' => Q .non H', rt := Q } (start N_Machine_spread vs) H
theorem sc_Machine_spread : FnScope N_Machine_spread ["self", "states"] (defScope s_Machine_spread) := ⟨rfl, rfl, rfl, by decide +kernel, rfl, by decide +kernel, by decide +kernel⟩
theorem ok_Machine_spread (T : Txt PROG K mg) : ∃ fd, FnOk PROG w K mg base (L2.CX PROG w) 2 (Rz.pM "Machine" "spread" K) fd ["self", "states"] (sp_Machine_spread K) ∧ FunD K "spread" "Machine.spread" (defArgs s_Machine_spread) (defBody s_Machine_spread) (defScope s_Machine_spread) [] [] (Rz.pM "Machine" "spread" K) fd := by
  obtain ⟨fd_reached, G_reached, D_reached⟩ := ok_reached (w := w) (base := base) T
  have b_reached_2 : Binds K fd_reached _ [] := D_reached.bindsN (ps := ["starts", "arrows"]) (fun _ _ _ _ _ _ us hl => match us, hl with | [_, _], _ => rfl)
  obtain ⟨fd, F⟩ := T.F_Machine_spread
  refine ⟨fd, F.ok sc_Machine_spread (fun vs H Q E h => h.1) (fun cdv A outer s H vs Q E hr h => ⟨t_Machine_spread K E, ?_, h.2⟩), F⟩
  exact (pss_one (ps_ret (pe_callB (cr_sortedD hr.units) rfl T.f_sorted (by decide +kernel) (pa_cons (pe_callTy (cr_listDk rfl) rfl T.f_list (by decide +kernel) (pa_cons (pe_callSD G_reached (hr.mono (by decide)) rfl T.g_reached D_reached.kp b_reached_2 .nil (fun σ => passAt (takes_of rfl rfl rfl rfl) σ) (pa_cons (pv 1) (pa_cons (pe_fld (pv 0) rfl) pa_nil))) pa_nil)) pa_nil))))
/-! Row.__iter__ -/
abbrev N_Row_iter : List Str := ["self"]
def t_Row_iter (K : Frg) (E : XK) : TS :=
  (tRet (tCB (rIterA K) (tCons (tFld K (tVar 0) "pairs") tNil)))
def sp_Row_iter (K : Frg) : Sp := fun vs H Q E => vs.length = 1 ∧ t_Row_iter K E { nx := fun _ H' => Q .non H', rt := Q } (start N_Row_iter vs) H
theorem sc_Row_iter : FnScope N_Row_iter ["self"] (defScope s_Row_iter) := ⟨rfl, rfl, rfl, by decide +kernel, rfl, by decide +kernel, by decide +kernel⟩
theorem ok_Row_iter (T : Txt PROG K mg) : ∃ fd, FnOk PROG w K mg base (L2.CX PROG w) 1 (Rz.pM "Row" "__iter__" K) fd ["self"] (sp_Row_iter K) ∧ FunD K "__iter__" "Row.__iter__" (defArgs s_Row_iter) (defBody s_Row_iter) (defScope s_Row_iter) [] [] (Rz.pM "Row" "__iter__" K) fd := by
  obtain ⟨fd, F⟩ := T.F_Row_iter
  refine ⟨fd, F.ok sc_Row_iter (fun vs H Q E h => h.1) (fun cdv A outer s H vs Q E hr h => ⟨t_Row_iter K E, ?_, h.2⟩), F⟩
  exact (pss_one (ps_ret (pe_callB c_iter rfl T.f_iter (by decide +kernel) (pa_cons (pe_fld (pv 0) rfl) pa_nil))))
/-! Machine.ends -/
abbrev N_Machine_ends : List Str := ["self", "start", "row", "states", "pair", "state", "sign", "height", "goal"]
def t_Machine_ends (K : Frg) (E : XK) : TS :=
  (tSeq (tAsg (tMethZ (He.ga K "Machine") "spread" (sp_Machine_spread K) [] (WE (W0 E)) (tVar 0) (tCons (tLst (tCons (tVar 1) tNil)) tNil)) (gName 3)) (tSeq (tFor (iOwn K (He.ga K "Row") (sp_Row_iter K) (fun _ => E0) (tVar 2)) (gName 4) (tAsg (tMethZ (He.ga K "Machine") "spread" (sp_Machine_spread K) [] (WE WN) (tVar 0) (tCons (tLc2 (iList K (tVar 3)) (gName 5) tYes (iList K (tDGet2 (tFld K (tVar 0) "outs") (tVar 5) (tLst tNil))) (gTup K 3 (gCons (gName 6) (gCons (gName 7) (gCons (gName 8) gNil)))) (tTest (tOp (rEqA K) (tTup (tCons (tVar 6) (tCons (tVar 7) tNil))) (tVar 4))) (tVar 8) [5, 6, 7, 8] [6, 7, 8]) tNil)) (gName 3))) (tRet (tVar 3))))
def sp_Machine_ends (K : Frg) : Sp := fun vs H Q E => vs.length = 3 ∧ t_Machine_ends K E { nx := fun _ H' => Q .non H', rt := Q } (start N_Machine_ends vs) H
theorem sc_Machine_ends : FnScope N_Machine_ends ["self", "start", "row"] (defScope s_Machine_ends) := ⟨rfl, rfl, rfl, by decide +kernel, rfl, by decide +kernel, by decide +kernel⟩
theorem ok_Machine_ends (T : Txt PROG K mg) : ∃ fd, FnOk PROG w K mg base (L2.CX PROG w) 3 (Rz.pM "Machine" "ends" K) fd ["self", "start", "row"] (sp_Machine_ends K) ∧ FunD K "ends" "Machine.ends" (defArgs s_Machine_ends) (defBody s_Machine_ends) (defScope s_Machine_ends) [] [] (Rz.pM "Machine" "ends" K) fd := by
  obtain ⟨fd_Machine_spread, G_Machine_spread, D_Machine_spread⟩ := ok_Machine_spread (w := w) (base := base) T
  obtain ⟨fd_Row_iter, G_Row_iter, D_Row_iter⟩ := ok_Row_iter (w := w) (base := base) T
  have b_Machine_spread_2 : Binds K fd_Machine_spread _ [] := D_Machine_spread.bindsN (ps := ["self", "states"]) (fun _ _ _ _ _ _ us hl => match us, hl with | [_, _], _ => rfl)
  have b_Row_iter_1 : Binds K fd_Row_iter _ [] := D_Row_iter.bindsN (ps := ["self"]) (fun _ _ _ _ _ _ us hl => match us, hl with | [_], _ => rfl)
  obtain ⟨fd, F⟩ := T.F_Machine_ends
  refine ⟨fd, F.ok sc_Machine_ends (fun vs H Q E h => h.1) (fun cdv A outer s H vs Q E hr h => ⟨t_Machine_ends K E, ?_, h.2⟩), F⟩
  exact (pss_cons (ps_set (i := 3) sc_Machine_ends.nd rfl (by first | exact Or.inl rfl | exact Or.inr rfl) (pe_methZ (pv 0) T.c_Machine T.m_Machine_spread G_Machine_spread (hr.mono (by decide)) b_Machine_spread_2 .nil (fun σ => passAt (takes_of rfl rfl rfl rfl) σ) (pa_cons (pe_lst (pa_cons (pv 1) pa_nil)) pa_nil))) (pss_cons (PS.young (by refine ps_for ?o ?p ?e ?f ?g; (case o => exact (passes_of rfl)); (case p => rfl); (case e => exact (pi_own T.m_Row___iter__ G_Row_iter (hr.mono (by decide)) b_Row_iter_1 (fun σ => passE0 σ) (pv 2))); (case f => exact (pg_name (i := 4) sc_Machine_ends.nd rfl (by first | exact Or.inl rfl | exact Or.inr rfl))); (case g => exact (pss_one (ps_set (i := 3) sc_Machine_ends.nd rfl (by first | exact Or.inl rfl | exact Or.inr rfl) (pe_methZ (pv 0) T.c_Machine T.m_Machine_spread G_Machine_spread (hr.mono (by decide)) b_Machine_spread_2 .nil (fun σ => passAt takes0 σ) (pa_cons (pe_lc2 (own := [("state", 5), ("sign", 6), ("height", 7), ("goal", 8)]) (vs1 := [6, 7, 8]) rfl sc_Machine_ends.nd (pi_list (pv 3)) (blkOk_by (own := [("state", 5), ("sign", 6), ("height", 7), ("goal", 8)]) (N := N_Machine_ends) (sc := defScope s_Machine_ends) (by decide +kernel)) (by decide) (fun _ _ _ _ _ => (pg_name (i := 5) sc_Machine_ends.nd rfl (by first | exact Or.inl rfl | exact Or.inr rfl))) (fun _ _ _ _ _ => pts_nil) (fun _ _ _ _ _ => (pi_list (pe_dget2 (Room.u1 hr) (pe_fld (pv 0) rfl) (pv 5) (pe_lst pa_nil) ⟨rfl, rfl, rfl, rfl⟩))) (fun _ _ _ _ _ => (pg_tup rfl (pgs_cons (pg_name (i := 6) sc_Machine_ends.nd rfl (by first | exact Or.inl rfl | exact Or.inr rfl)) (pgs_cons (pg_name (i := 7) sc_Machine_ends.nd rfl (by first | exact Or.inl rfl | exact Or.inr rfl)) (pgs_cons (pg_name (i := 8) sc_Machine_ends.nd rfl (by first | exact Or.inl rfl | exact Or.inr rfl)) pgs_nil))))) (fun _ _ _ _ _ => (pts_one (pt_cmpR (op_eqA hr) (pe_tup (pa_cons (pv 6) (pa_cons (pv 7) pa_nil))) (pv 4) (nomark _)))) (fun _ _ _ _ _ => (pv 8))) pa_nil))))))) (pss_one (ps_ret (pv 3)))))
/-! _law_join -/
abbrev N_law_join : List Str := ["_law_spreads", "_law_states", "_law_found", "_law_state", "_law_goal"]
def t_law_join (K : Frg) (E : XK) : TS :=
  (tSeq (tAsg tDNewK (gName 2)) (tSeq (tFor (iList K (tVar 1)) (gName 3) (tFor (iList K (tDGet (tVar 0) (tVar 3))) (gName 4) (sDPut (tVar 2) (tVar 4) (tC (.bl true))))) (tRet (tCB (rSortedD K) (tCons (tCB rListDk (tCons (tVar 2) tNil)) tNil)))))
def sp_law_join (K : Frg) : Sp := fun vs H Q E => vs.length = 2 ∧ t_law_join K E { nx := fun _ H' => Q .non H', rt := Q } (start N_law_join vs) H
theorem sc_law_join : FnScope N_law_join ["_law_spreads", "_law_states"] (defScope s_law_join) := ⟨rfl, rfl, rfl, by decide +kernel, rfl, by decide +kernel, by decide +kernel⟩
theorem ok_law_join (T : Txt PROG K mg) : ∃ fd, FnOk PROG w K mg base (L2.CX PROG w) 1 (Rz.pG "_law_join" K) fd ["_law_spreads", "_law_states"] (sp_law_join K) ∧ FunD K "_law_join" "_law_join" (defArgs s_law_join) (defBody s_law_join) (defScope s_law_join) [] [] (Rz.pG "_law_join" K) fd := by
  obtain ⟨fd, F⟩ := T.F_law_join
  refine ⟨fd, F.ok sc_law_join (fun vs H Q E h => h.1) (fun cdv A outer s H vs Q E hr h => ⟨t_law_join K E, ?_, h.2⟩), F⟩
  exact (pss_cons (ps_set (i := 2) sc_law_join.nd rfl (by first | exact Or.inl rfl | exact Or.inr rfl) pe_dnewK) (pss_cons (ps_for (passes_of rfl) rfl (pi_list (pv 1)) (pg_name (i := 3) sc_law_join.nd rfl (by first | exact Or.inl rfl | exact Or.inr rfl)) (pss_one (ps_for (passes_of rfl) rfl (pi_list (pe_dget (Room.u1 hr) (pv 0) (pv 3) (fun _ _ => rfl))) (pg_name (i := 4) sc_law_join.nd rfl (by first | exact Or.inl rfl | exact Or.inr rfl)) (pss_one (ps_dput (Room.u1 hr) (pv 2) (pv 4) pe_bl rfl))))) (pss_one (ps_ret (pe_callB (cr_sortedD hr.units) rfl T.f_sorted (by decide +kernel) (pa_cons (pe_callTy (cr_listDk rfl) rfl T.f_list (by decide +kernel) (pa_cons (pv 2) pa_nil)) pa_nil))))))
/-! _law_read -/
abbrev N_law_read : List Str := ["_law_graph", "_law_states", "_law_row", "_law_pair", "_law_goals", "_law_state", "_law_sign", "_law_height", "_law_goal"]
def t_law_read (K : Frg) (E : XK) : TS :=
  (tSeq (tAsg (tCallSD (sp_law_join K) [] (WE (W0 E)) (tCons (tOp (rIx K) (tVar 0) (tC (.int 1))) (tCons (tVar 1) tNil))) (gName 1)) (tSeq (tFor (iList K (tVar 2)) (gName 3) (tSeq (tAsg tDNewK (gName 4)) (tSeq (tFor (iList K (tVar 1)) (gName 5) (tFor (iList K (tDGet2 (tOp (rIx K) (tVar 0) (tC (.int 0))) (tVar 5) (tLst tNil))) (gTup K 3 (gCons (gName 6) (gCons (gName 7) (gCons (gName 8) gNil)))) (tIfS (tTest (tOp (rEqA K) (tTup (tCons (tVar 6) (tCons (tVar 7) tNil))) (tVar 3))) (sDPut (tVar 4) (tVar 8) (tC (.bl true))) tNext))) (tAsg (tCallSD (sp_law_join K) [] (WE (W0 E)) (tCons (tOp (rIx K) (tVar 0) (tC (.int 1))) (tCons (tCB rListDk (tCons (tVar 4) tNil)) tNil))) (gName 1))))) (tRet (tVar 1))))
def sp_law_read (K : Frg) : Sp := fun vs H Q E => vs.length = 3 ∧ t_law_read K E { nx := fun _ H' => Q .non H', rt := Q } (start N_law_read vs) H
theorem sc_law_read : FnScope N_law_read ["_law_graph", "_law_states", "_law_row"] (defScope s_law_read) := ⟨rfl, rfl, rfl, by decide +kernel, rfl, by decide +kernel, by decide +kernel⟩
theorem ok_law_read (T : Txt PROG K mg) : ∃ fd, FnOk PROG w K mg base (L2.CX PROG w) 2 (Rz.pG "_law_read" K) fd ["_law_graph", "_law_states", "_law_row"] (sp_law_read K) ∧ FunD K "_law_read" "_law_read" (defArgs s_law_read) (defBody s_law_read) (defScope s_law_read) [] [] (Rz.pG "_law_read" K) fd := by
  obtain ⟨fd_law_join, G_law_join, D_law_join⟩ := ok_law_join (w := w) (base := base) T
  have b_law_join_2 : Binds K fd_law_join _ [] := D_law_join.bindsN (ps := ["_law_spreads", "_law_states"]) (fun _ _ _ _ _ _ us hl => match us, hl with | [_, _], _ => rfl)
  obtain ⟨fd, F⟩ := T.F_law_read
  refine ⟨fd, F.ok sc_law_read (fun vs H Q E h => h.1) (fun cdv A outer s H vs Q E hr h => ⟨t_law_read K E, ?_, h.2⟩), F⟩
  exact (pss_cons (ps_set (i := 1) sc_law_read.nd rfl (by first | exact Or.inl rfl | exact Or.inr rfl) (pe_callSD G_law_join (hr.mono (by decide)) rfl T.g__law_join D_law_join.kp b_law_join_2 .nil (fun σ => passAt (takes_of rfl rfl rfl rfl) σ) (pa_cons (pe_ix ix_seq (pv 0) pe_int (fun _ _ => rfl)) (pa_cons (pv 1) pa_nil)))) (pss_cons (ps_for (passes_of rfl) rfl (pi_list (pv 2)) (pg_name (i := 3) sc_law_read.nd rfl (by first | exact Or.inl rfl | exact Or.inr rfl)) (pss_cons (ps_set (i := 4) sc_law_read.nd rfl (by first | exact Or.inl rfl | exact Or.inr rfl) pe_dnewK) (pss_cons (ps_for (passes_of rfl) rfl (pi_list (pv 1)) (pg_name (i := 5) sc_law_read.nd rfl (by first | exact Or.inl rfl | exact Or.inr rfl)) (pss_one (ps_for (passes_of rfl) rfl (pi_list (pe_dget2 (Room.u1 hr) (pe_ix ix_seq (pv 0) pe_int (fun _ _ => rfl)) (pv 5) (pe_lst pa_nil) ⟨rfl, rfl, rfl, rfl⟩)) (pg_tup rfl (pgs_cons (pg_name (i := 6) sc_law_read.nd rfl (by first | exact Or.inl rfl | exact Or.inr rfl)) (pgs_cons (pg_name (i := 7) sc_law_read.nd rfl (by first | exact Or.inl rfl | exact Or.inr rfl)) (pgs_cons (pg_name (i := 8) sc_law_read.nd rfl (by first | exact Or.inl rfl | exact Or.inr rfl)) pgs_nil)))) (pss_one (ps_if (pt_cmpR (op_eqA hr) (pe_tup (pa_cons (pv 6) (pa_cons (pv 7) pa_nil))) (pv 3) (nomark _)) (pss_one (ps_dput (Room.u1 hr) (pv 4) (pv 8) pe_bl rfl)) pss_nil))))) (pss_one (ps_set (i := 1) sc_law_read.nd rfl (by first | exact Or.inl rfl | exact Or.inr rfl) (pe_callSD G_law_join (hr.mono (by decide)) rfl T.g__law_join D_law_join.kp b_law_join_2 .nil (fun σ => passAt (takes_of rfl rfl rfl rfl) σ) (pa_cons (pe_ix ix_seq (pv 0) pe_int (fun _ _ => rfl)) (pa_cons (pe_callTy (cr_listDk rfl) rfl T.f_list (by decide +kernel) (pa_cons (pv 4) pa_nil)) pa_nil)))))))) (pss_one (ps_ret (pv 1)))))
/-! _law_odd_sign -/
abbrev N_law_odd_sign : List Str := ["_law_draws", "_law_odd"]
def t_law_odd_sign (K : Frg) (E : XK) : TS :=
  (tSeq (tAsg (tC (.str " !\"#$&'()*+,-./0123456789:;<=>?@ABCDEFGHIJKLMNOPQRSTUVWXYZ[\\]^_`{|}~\n\t")) (gName 1)) (tRet (tOp (rIx K) (tVar 1) (tCallSD (sp_law_pick K) [] (WE (W0 E)) (tCons (tVar 0) (tCons (tCB (rLenA K) (tCons (tVar 1) tNil)) tNil))))))
def sp_law_odd_sign (K : Frg) : Sp := fun vs H Q E => vs.length = 1 ∧ t_law_odd_sign K E { nx := fun _ H' => Q .non H', rt := Q } (start N_law_odd_sign vs) H
theorem sc_law_odd_sign : FnScope N_law_odd_sign ["_law_draws"] (defScope s_law_odd_sign) := ⟨rfl, rfl, rfl, by decide +kernel, rfl, by decide +kernel, by decide +kernel⟩
theorem ok_law_odd_sign (T : Txt PROG K mg) : ∃ fd, FnOk PROG w K mg base (L2.CX PROG w) 2 (Rz.pG "_law_odd_sign" K) fd ["_law_draws"] (sp_law_odd_sign K) ∧ FunD K "_law_odd_sign" "_law_odd_sign" (defArgs s_law_odd_sign) (defBody s_law_odd_sign) (defScope s_law_odd_sign) [] [] (Rz.pG "_law_odd_sign" K) fd := by
  obtain ⟨fd_law_pick, G_law_pick, D_law_pick⟩ := ok_law_pick (w := w) (base := base) T
  have b_law_pick_2 : Binds K fd_law_pick _ [] := D_law_pick.bindsN (ps := ["_law_draws", "_law_many"]) (fun _ _ _ _ _ _ us hl => match us, hl with | [_, _], _ => rfl)
  obtain ⟨fd, F⟩ := T.F_law_odd_sign
  refine ⟨fd, F.ok sc_law_odd_sign (fun vs H Q E h => h.1) (fun cdv A outer s H vs Q E hr h => ⟨t_law_odd_sign K E, ?_, h.2⟩), F⟩
  exact (pss_cons (ps_set (i := 1) sc_law_odd_sign.nd rfl (by first | exact Or.inl rfl | exact Or.inr rfl) pe_str) (pss_one (ps_ret (pe_ix ix_seq (pv 1) (pe_callSD G_law_pick (hr.mono (by decide)) rfl T.g__law_pick D_law_pick.kp b_law_pick_2 .nil (fun σ => passAt (takes_of rfl rfl rfl rfl) σ) (pa_cons (pv 0) (pa_cons (pe_callB c_len rfl T.f_len (by decide +kernel) (pa_cons (pv 1) pa_nil)) pa_nil))) (fun _ _ => rfl)))))
/-! Machine.__contains__ -/
abbrev N_Machine_contains : List Str := ["self", "part", "states", "letter", "state", "sign", "height", "goal"]
def t_Machine_contains (K : Frg) (E : XK) : TS :=
  (tSeq (tAsg (tMethZ (He.ga K "Machine") "spread" (sp_Machine_spread K) [] (WE (W0 E)) (tVar 0) (tCons (tLst (tCons (tC (.int 0)) tNil)) tNil)) (gName 2)) (tSeq (tIfS (tB (tCB (rIsiA K) (tCons (tVar 1) (tCons (tC (.ty "str")) tNil)))) (tFor (iStr (tVar 1)) (gName 3) (tAsg (tMethZ (He.ga K "Machine") "spread" (sp_Machine_spread K) [] (WE (W0 E)) (tVar 0) (tCons (tLc2 (iList K (tVar 2)) (gName 4) tYes (iList K (tDGet2 (tFld K (tVar 0) "outs") (tVar 4) (tLst tNil))) (gTup K 3 (gCons (gName 5) (gCons (gName 6) (gCons (gName 7) gNil)))) (tTest (tOp (rEqA K) (tVar 5) (tVar 3))) (tVar 7) [4, 5, 6, 7] [5, 6, 7]) tNil)) (gName 2))) (tAsg (tMethZ (He.ga K "Machine") "ends" (sp_Machine_ends K) [] (WE (W0 E)) (tVar 0) (tCons (tC (.int 0)) (tCons (tVar 1) tNil))) (gName 2))) (tRet (tCB (rAnyA K) (tCons (tLc (iList K (tVar 2)) (gName 4) tYes (tOp (rInA K) (tVar 4) (tFld K (tVar 0) "finals")) [4]) tNil)))))
def sp_Machine_contains (K : Frg) : Sp := fun vs H Q E => vs.length = 2 ∧ t_Machine_contains K E { nx := fun _ H' => Q .non H', rt := Q } (start N_Machine_contains vs) H
theorem sc_Machine_contains : FnScope N_Machine_contains ["self", "part"] (defScope s_Machine_contains) := ⟨rfl, rfl, rfl, by decide +kernel, rfl, by decide +kernel, by decide +kernel⟩
theorem ok_Machine_contains (T : Txt PROG K mg) : ∃ fd, FnOk PROG w K mg base (L2.CX PROG w) 4 (Rz.pM "Machine" "__contains__" K) fd ["self", "part"] (sp_Machine_contains K) ∧ FunD K "__contains__" "Machine.__contains__" (defArgs s_Machine_contains) (defBody s_Machine_contains) (defScope s_Machine_contains) [] [] (Rz.pM "Machine" "__contains__" K) fd := by
  obtain ⟨fd_Machine_spread, G_Machine_spread, D_Machine_spread⟩ := ok_Machine_spread (w := w) (base := base) T
  obtain ⟨fd_Machine_ends, G_Machine_ends, D_Machine_ends⟩ := ok_Machine_ends (w := w) (base := base) T
  have b_Machine_spread_2 : Binds K fd_Machine_spread _ [] := D_Machine_spread.bindsN (ps := ["self", "states"]) (fun _ _ _ _ _ _ us hl => match us, hl with | [_, _], _ => rfl)
  have b_Machine_ends_3 : Binds K fd_Machine_ends _ [] := D_Machine_ends.bindsN (ps := ["self", "start", "row"]) (fun _ _ _ _ _ _ us hl => match us, hl with | [_, _, _], _ => rfl)
  obtain ⟨fd, F⟩ := T.F_Machine_contains
  refine ⟨fd, F.ok sc_Machine_contains (fun vs H Q E h => h.1) (fun cdv A outer s H vs Q E hr h => ⟨t_Machine_contains K E, ?_, h.2⟩), F⟩
  exact (pss_cons (ps_set (i := 2) sc_Machine_contains.nd rfl (by first | exact Or.inl rfl | exact Or.inr rfl) (pe_methZ (pv 0) T.c_Machine T.m_Machine_spread G_Machine_spread (hr.mono (by decide)) b_Machine_spread_2 .nil (fun σ => passAt (takes_of rfl rfl rfl rfl) σ) (pa_cons (pe_lst (pa_cons pe_int pa_nil)) pa_nil))) (pss_cons (ps_if (pt_val (pe_callB c_isi rfl T.f_isinstance (by decide +kernel) (pa_cons (pv 1) (pa_cons (pe_bltn rfl T.f_str (by decide +kernel) rfl) pa_nil)))) (pss_one (ps_for (passes_of rfl) rfl (pi_str (pv 1)) (pg_name (i := 3) sc_Machine_contains.nd rfl (by first | exact Or.inl rfl | exact Or.inr rfl)) (pss_one (ps_set (i := 2) sc_Machine_contains.nd rfl (by first | exact Or.inl rfl | exact Or.inr rfl) (pe_methZ (pv 0) T.c_Machine T.m_Machine_spread G_Machine_spread (hr.mono (by decide)) b_Machine_spread_2 .nil (fun σ => passAt (takes_of rfl rfl rfl rfl) σ) (pa_cons (pe_lc2 (own := [("state", 4), ("sign", 5), ("height", 6), ("goal", 7)]) (vs1 := [5, 6, 7]) rfl sc_Machine_contains.nd (pi_list (pv 2)) (blkOk_by (own := [("state", 4), ("sign", 5), ("height", 6), ("goal", 7)]) (N := N_Machine_contains) (sc := defScope s_Machine_contains) (by decide +kernel)) (by decide) (fun _ _ _ _ _ => (pg_name (i := 4) sc_Machine_contains.nd rfl (by first | exact Or.inl rfl | exact Or.inr rfl))) (fun _ _ _ _ _ => pts_nil) (fun _ _ _ _ _ => (pi_list (pe_dget2 (Room.u1 hr) (pe_fld (pv 0) rfl) (pv 4) (pe_lst pa_nil) ⟨rfl, rfl, rfl, rfl⟩))) (fun _ _ _ _ _ => (pg_tup rfl (pgs_cons (pg_name (i := 5) sc_Machine_contains.nd rfl (by first | exact Or.inl rfl | exact Or.inr rfl)) (pgs_cons (pg_name (i := 6) sc_Machine_contains.nd rfl (by first | exact Or.inl rfl | exact Or.inr rfl)) (pgs_cons (pg_name (i := 7) sc_Machine_contains.nd rfl (by first | exact Or.inl rfl | exact Or.inr rfl)) pgs_nil))))) (fun _ _ _ _ _ => (pts_one (pt_cmpR (op_eqA hr) (pv 5) (pv 3) (nomark _)))) (fun _ _ _ _ _ => (pv 7))) pa_nil)))))) (pss_one (ps_set (i := 2) sc_Machine_contains.nd rfl (by first | exact Or.inl rfl | exact Or.inr rfl) (pe_methZ (pv 0) T.c_Machine T.m_Machine_ends G_Machine_ends (hr.mono (by decide)) b_Machine_ends_3 .nil (fun σ => passAt (takes_of rfl rfl rfl rfl) σ) (pa_cons pe_int (pa_cons (pv 1) pa_nil)))))) (pss_one (ps_ret (pe_callB (c_any rfl) rfl T.f_any (by decide +kernel) (pa_cons (pe_lc (own := [("state", 4)]) rfl sc_Machine_contains.nd (pi_list (pv 2)) (blkOk_by (own := [("state", 4)]) (N := N_Machine_contains) (sc := defScope s_Machine_contains) (by decide +kernel)) (fun _ _ _ _ _ => (pg_name (i := 4) sc_Machine_contains.nd rfl (by first | exact Or.inl rfl | exact Or.inr rfl))) (fun _ _ _ _ _ => pts_nil) (fun _ _ _ _ _ => (pe_cmpR op_inA (pv 4) (pe_fld (pv 0) rfl) (by rfl)))) pa_nil))))))
/-! Row.signs -/
abbrev N_Row_signs : List Str := ["self", "sign", "height"]
def t_Row_signs (K : Frg) (E : XK) : TS :=
  (tRet (tM1 (rJoinA K) (tC (.str "")) (tLc (iList K (tFld K (tVar 0) "pairs")) (gTup K 2 (gCons (gName 1) (gCons (gName 2) gNil))) tYes (tVar 1) [1, 2])))
def sp_Row_signs (K : Frg) : Sp := fun vs H Q E => vs.length = 1 ∧ t_Row_signs K E { nx := fun _ H' => Q .non H', rt := Q } (start N_Row_signs vs) H
theorem sc_Row_signs : FnScope N_Row_signs ["self"] (defScope s_Row_signs) := ⟨rfl, rfl, rfl, by decide +kernel, rfl, by decide +kernel, by decide +kernel⟩
theorem ok_Row_signs (T : Txt PROG K mg) : ∃ fd, FnOk PROG w K mg base (L2.CX PROG w) 1 (Rz.pP "Row" "signs" K) fd ["self"] (sp_Row_signs K) ∧ FunD K "signs" "Row.signs" (defArgs s_Row_signs) (defBody s_Row_signs) (defScope s_Row_signs) [] [] (Rz.pP "Row" "signs" K) fd := by
  obtain ⟨fd, F⟩ := T.F_Row_signs
  refine ⟨fd, F.ok sc_Row_signs (fun vs H Q E h => h.1) (fun cdv A outer s H vs Q E hr h => ⟨t_Row_signs K E, ?_, h.2⟩), F⟩
  exact (pss_one (ps_ret (pe_joinA pe_str (pe_lc (own := [("sign", 1), ("height", 2)]) rfl sc_Row_signs.nd (pi_list (pe_fld (pv 0) rfl)) (blkOk_by (own := [("sign", 1), ("height", 2)]) (N := N_Row_signs) (sc := defScope s_Row_signs) (by decide +kernel)) (fun _ _ _ _ _ => (pg_tup rfl (pgs_cons (pg_name (i := 1) sc_Row_signs.nd rfl (by first | exact Or.inl rfl | exact Or.inr rfl)) (pgs_cons (pg_name (i := 2) sc_Row_signs.nd rfl (by first | exact Or.inl rfl | exact Or.inr rfl)) pgs_nil)))) (fun _ _ _ _ _ => pts_nil) (fun _ _ _ _ _ => (pv 1))))))
/-! _law_meets -/
abbrev N_law_meets : List Str := ["_law_states", "_law_last", "_law_state"]
def t_law_meets (K : Frg) (E : XK) : TS :=
  (tRet (tOp (rNeA K) (tLc (iList K (tVar 0)) (gName 2) (tTest (tOp (rInA K) (tVar 2) (tVar 1))) (tVar 2) [2]) (tLst tNil)))
def sp_law_meets (K : Frg) : Sp := fun vs H Q E => vs.length = 2 ∧ t_law_meets K E { nx := fun _ H' => Q .non H', rt := Q } (start N_law_meets vs) H
theorem sc_law_meets : FnScope N_law_meets ["_law_states", "_law_last"] (defScope s_law_meets) := ⟨rfl, rfl, rfl, by decide +kernel, rfl, by decide +kernel, by decide +kernel⟩
theorem ok_law_meets (T : Txt PROG K mg) : ∃ fd, FnOk PROG w K mg base (L2.CX PROG w) 1 (Rz.pG "_law_meets" K) fd ["_law_states", "_law_last"] (sp_law_meets K) ∧ FunD K "_law_meets" "_law_meets" (defArgs s_law_meets) (defBody s_law_meets) (defScope s_law_meets) [] [] (Rz.pG "_law_meets" K) fd := by
  obtain ⟨fd, F⟩ := T.F_law_meets
  refine ⟨fd, F.ok sc_law_meets (fun vs H Q E h => h.1) (fun cdv A outer s H vs Q E hr h => ⟨t_law_meets K E, ?_, h.2⟩), F⟩
  exact (pss_one (ps_ret (pe_cmpR (op_neA hr) (pe_lc (own := [("_law_state", 2)]) rfl sc_law_meets.nd (pi_list (pv 0)) (blkOk_by (own := [("_law_state", 2)]) (N := N_law_meets) (sc := defScope s_law_meets) (by decide +kernel)) (fun _ _ _ _ _ => (pg_name (i := 2) sc_law_meets.nd rfl (by first | exact Or.inl rfl | exact Or.inr rfl))) (fun _ _ _ _ _ => (pts_one (pt_cmpR op_inA (pv 2) (pv 1) (by rfl)))) (fun _ _ _ _ _ => (pv 2))) (pe_lst pa_nil) (nomark _))))
/-! _law_spelling -/
abbrev N_law_spelling : List Str := ["_law_graph", "_law_text", "_law_states", "_law_letter", "_law_goals", "_law_state", "_law_sign", "_law_level", "_law_goal"]
def t_law_spelling (K : Frg) (E : XK) : TS :=
  (tSeq (tAsg (tCallSD (sp_law_join K) [] (WE (W0 E)) (tCons (tOp (rIx K) (tVar 0) (tC (.int 1))) (tCons (tLst (tCons (tC (.int 0)) tNil)) tNil))) (gName 2)) (tSeq (tFor (iStr (tVar 1)) (gName 3) (tSeq (tAsg (tLst tNil) (gName 4)) (tSeq (tFor (iList K (tVar 2)) (gName 5) (tFor (iList K (tDGet2 (tOp (rIx K) (tVar 0) (tC (.int 0))) (tVar 5) (tLst tNil))) (gTup K 3 (gCons (gName 6) (gCons (gName 7) (gCons (gName 8) gNil)))) (tIfS (tTest (tOp (rEqA K) (tVar 6) (tVar 3))) (tDrop (tBM K "list" rAppend (tVar 4) (tCons (tVar 8) tNil))) tNext))) (tAsg (tCallSD (sp_law_join K) [] (WE (W0 E)) (tCons (tOp (rIx K) (tVar 0) (tC (.int 1))) (tCons (tVar 4) tNil))) (gName 2))))) (tRet (tVar 2))))
def sp_law_spelling (K : Frg) : Sp := fun vs H Q E => vs.length = 2 ∧ t_law_spelling K E { nx := fun _ H' => Q .non H', rt := Q } (start N_law_spelling vs) H
theorem sc_law_spelling : FnScope N_law_spelling ["_law_graph", "_law_text"] (defScope s_law_spelling) := ⟨rfl, rfl, rfl, by decide +kernel, rfl, by decide +kernel, by decide +kernel⟩
theorem ok_law_spelling (T : Txt PROG K mg) : ∃ fd, FnOk PROG w K mg base (L2.CX PROG w) 2 (Rz.pG "_law_spelling" K) fd ["_law_graph", "_law_text"] (sp_law_spelling K) ∧ FunD K "_law_spelling" "_law_spelling" (defArgs s_law_spelling) (defBody s_law_spelling) (defScope s_law_spelling) [] [] (Rz.pG "_law_spelling" K) fd := by
  obtain ⟨fd_law_join, G_law_join, D_law_join⟩ := ok_law_join (w := w) (base := base) T
  have b_law_join_2 : Binds K fd_law_join _ [] := D_law_join.bindsN (ps := ["_law_spreads", "_law_states"]) (fun _ _ _ _ _ _ us hl => match us, hl with | [_, _], _ => rfl)
  obtain ⟨fd, F⟩ := T.F_law_spelling
  refine ⟨fd, F.ok sc_law_spelling (fun vs H Q E h => h.1) (fun cdv A outer s H vs Q E hr h => ⟨t_law_spelling K E, ?_, h.2⟩), F⟩
  exact (pss_cons (ps_set (i := 2) sc_law_spelling.nd rfl (by first | exact Or.inl rfl | exact Or.inr rfl) (pe_callSD G_law_join (hr.mono (by decide)) rfl T.g__law_join D_law_join.kp b_law_join_2 .nil (fun σ => passAt (takes_of rfl rfl rfl rfl) σ) (pa_cons (pe_ix ix_seq (pv 0) pe_int (fun _ _ => rfl)) (pa_cons (pe_lst (pa_cons pe_int pa_nil)) pa_nil)))) (pss_cons (ps_for (passes_of rfl) rfl (pi_str (pv 1)) (pg_name (i := 3) sc_law_spelling.nd rfl (by first | exact Or.inl rfl | exact Or.inr rfl)) (pss_cons (ps_set (i := 4) sc_law_spelling.nd rfl (by first | exact Or.inl rfl | exact Or.inr rfl) (pe_lst pa_nil)) (pss_cons (ps_for (passes_of rfl) rfl (pi_list (pv 2)) (pg_name (i := 5) sc_law_spelling.nd rfl (by first | exact Or.inl rfl | exact Or.inr rfl)) (pss_one (ps_for (passes_of rfl) rfl (pi_list (pe_dget2 (Room.u1 hr) (pe_ix ix_seq (pv 0) pe_int (fun _ _ => rfl)) (pv 5) (pe_lst pa_nil) ⟨rfl, rfl, rfl, rfl⟩)) (pg_tup rfl (pgs_cons (pg_name (i := 6) sc_law_spelling.nd rfl (by first | exact Or.inl rfl | exact Or.inr rfl)) (pgs_cons (pg_name (i := 7) sc_law_spelling.nd rfl (by first | exact Or.inl rfl | exact Or.inr rfl)) (pgs_cons (pg_name (i := 8) sc_law_spelling.nd rfl (by first | exact Or.inl rfl | exact Or.inr rfl)) pgs_nil)))) (pss_one (ps_if (pt_cmpR (op_eqA hr) (pv 6) (pv 3) (nomark _)) (pss_one (ps_expr (pe_bm PySem.F.plainAttrs_list PySem.F.slot_list_append PySem.F.type_list_append mt_append (pv 4) (pa_cons (pv 8) pa_nil)))) pss_nil))))) (pss_one (ps_set (i := 2) sc_law_spelling.nd rfl (by first | exact Or.inl rfl | exact Or.inr rfl) (pe_callSD G_law_join (hr.mono (by decide)) rfl T.g__law_join D_law_join.kp b_law_join_2 .nil (fun σ => passAt (takes_of rfl rfl rfl rfl) σ) (pa_cons (pe_ix ix_seq (pv 0) pe_int (fun _ _ => rfl)) (pa_cons (pv 4) pa_nil)))))))) (pss_one (ps_ret (pv 2)))))
/-! law -/
abbrev N_law : List Str := ["_law_script", "_law_draws", "_law_signs", "_law_start", "_law_edges", "_law_passed", "_law_machine", "_law_graph", "_law_pairs", "_law_row", "_law_ends", "_law_told", "_law_due", "_law_k", "_law_many", "_law_last", "_law_free", "_law_edge"]
def t_law (K : Frg) (E : XK) : TS :=
  (tSeq (tAsg (tCallSD (sp_law_pool K) [] (WE (W0 E)) (tCons (tVar 0) tNil)) (gName 1)) (tSeq (tAsg (tCallSD (sp_law_alphabet K) [] (WE (W0 E)) (tCons (tVar 1) (tCons (tC (.int 2)) tNil))) (gName 2)) (tSeq (tAsg (tCallSD (sp_law_machine_of K) [] (WE (W0 E)) (tCons (tVar 1) (tCons (tVar 2) tNil))) (gTup K 4 (gCons (gName 14) (gCons (gName 15) (gCons (gName 4) (gCons (gName 16) gNil)))))) (tSeq (tIfS (tTest (tOp (rEqA K) (tCallSD (sp_law_pick K) [] (WE (W0 E)) (tCons (tVar 1) (tCons (tC (.int 4)) tNil))) (tC (.int 3)))) (tAsg (tLc (iList K (tVar 4)) (gName 17) tYes (tTup (tCons (tOp (rIx K) (tVar 17) (tC (.int 0))) (tCons (tOp (rIx K) (tVar 17) (tC (.int 1))) (tCons (tOp rAddA (tOp (rIx K) (tVar 17) (tC (.int 2))) (tC (.int 7))) (tCons (tOp (rIx K) (tVar 17) (tC (.int 3))) tNil))))) [17]) (gName 4)) tNext) (tSeq (tAsg (tCallSD (sp_law_pick K) [] (WE (W0 E)) (tCons (tVar 1) (tCons (tVar 14) tNil))) (gName 3)) (tSeq (tAsg (tOp rAddA (tVar 4) (tSl (rSlA K) (tVar 4) (tPart (tC (.int 1))) (tPart (tC (.int 3))))) (gName 4)) (tSeq (tAsg (tTup (tCons (tOp rAddA (tVar 15) (tSl (rSlA K) (tVar 15) tNoPart (tPart (tC (.int 1))))) (tCons (tCB (rListA K) (tCons (tVar 4) tNil)) (tCons (tOp rAddA (tVar 16) (tSl (rSlA K) (tVar 16) tNoPart (tPart (tC (.int 1))))) tNil)))) (gName 5)) (tSeq (tAsg (tMakeS (He.ga K "Machine") (sp_Machine_init K) [] (WE (W0 E)) (tCons (tVar 14) (tCons (tOp (rIx K) (tVar 5) (tC (.int 0))) (tCons (tOp (rIx K) (tVar 5) (tC (.int 1))) (tCons (tOp (rIx K) (tVar 5) (tC (.int 2))) tNil))))) (gName 6)) (tSeq (tIfS (tTest (tOp (rNeA K) (tVar 5) (tTup (tCons (tOp rAddA (tVar 15) (tSl (rSlA K) (tVar 15) tNoPart (tPart (tC (.int 1))))) (tCons (tVar 4) (tCons (tOp rAddA (tVar 16) (tSl (rSlA K) (tVar 16) tNoPart (tPart (tC (.int 1))))) tNil)))))) (tRet (tC (.bl false))) tNext) (tSeq (tDrop (tBM K "list" rAppend (tOp (rIx K) (tVar 5) (tC (.int 0))) (tCons (tC (.int 0)) tNil))) (tSeq (tDrop (tBM K "list" rAppend (tOp (rIx K) (tVar 5) (tC (.int 1))) (tCons (tTup (tCons (tC (.int 0)) (tCons (tC (.str "a")) (tCons (tC (.int 0)) (tCons (tC (.int 0)) tNil))))) tNil))) (tSeq (tDrop (tBM K "list" rAppend (tOp (rIx K) (tVar 5) (tC (.int 2))) (tCons (tTup (tCons (tC (.int 0)) (tCons (tOp rSubA (tVar 14) (tC (.int 1))) tNil))) tNil))) (tSeq (tIfS (tNot (tB (tCallSD (sp_law_fine K) [] (WE (W0 E)) (tCons (tVar 6) (tCons (tVar 14) (tCons (tVar 15) (tCons (tVar 4) (tCons (tVar 16) tNil)))))))) (tRet (tC (.bl false))) tNext) (tSeq (tAsg (tCallSD (sp_law_graph_of K) [] (WE (W0 E)) (tCons (tVar 14) (tCons (tVar 4) (tCons (tVar 16) tNil)))) (gName 7)) (tSeq (tAsg (tCallSD (sp_law_walk_on K) [] (WE (W0 E)) (tCons (tVar 1) (tCons (tVar 4) (tCons (tVar 3) (tCons (tVar 2) tNil))))) (gName 8)) (tSeq (tAsg (tCallSD (sp_law_as_row K) [] (WE (W0 E)) (tCons (tVar 8) tNil)) (gName 9)) (tSeq (tAsg (tMethZ (He.ga K "Machine") "ends" (sp_Machine_ends K) [] (WE (W0 E)) (tVar 6) (tCons (tVar 3) (tCons (tVar 9) tNil))) (gName 10)) (tSeq (tIfS (tOr (tNot (tB (tCB (rIsiA K) (tCons (tVar 10) (tCons (tC (.ty "list")) tNil))))) (tTest (tOp (rNeA K) (tVar 10) (tCallSD (sp_law_read K) [] (WE (W0 E)) (tCons (tVar 7) (tCons (tLst (tCons (tVar 3) tNil)) (tCons (tVar 8) tNil))))))) (tRet (tC (.bl false))) tNext) (tSeq (tAsg (tLst (tCons (tInO (He.ga K "Machine") (sp_Machine_contains K) (WE (W0 E)) (tVar 9) (tVar 6)) (tCons (tInO (He.ga K "Machine") (sp_Machine_contains K) (WE (W0 E)) (tProp (He.ga K "Row") (sp_Row_signs K) [] E0 (tVar 9)) (tVar 6)) (tCons (tInO (He.ga K "Machine") (sp_Machine_contains K) (WE (W0 E)) (tC (.str "")) (tVar 6)) (tCons (tInO (He.ga K "Machine") (sp_Machine_contains K) (WE (W0 E)) (tOp rAddA (tCallSD (sp_law_odd_sign K) [] (WE (W0 E)) (tCons (tVar 1) tNil)) (tC (.str "A"))) (tVar 6)) tNil))))) (gName 11)) (tSeq (tAsg (tLst (tCons (tCallSD (sp_law_meets K) [] (WE (W0 E)) (tCons (tCallSD (sp_law_read K) [] (WE (W0 E)) (tCons (tVar 7) (tCons (tLst (tCons (tC (.int 0)) tNil)) (tCons (tVar 8) tNil)))) (tCons (tVar 15) tNil))) (tCons (tCallSD (sp_law_meets K) [] (WE (W0 E)) (tCons (tCallSD (sp_law_spelling K) [] (WE (W0 E)) (tCons (tVar 7) (tCons (tProp (He.ga K "Row") (sp_Row_signs K) [] E0 (tVar 9)) tNil))) (tCons (tVar 15) tNil))) tNil))) (gName 12)) (tSeq (tAsg (tOp rAddA (tVar 12) (tLst (tCons (tCallSD (sp_law_meets K) [] (WE (W0 E)) (tCons (tCallSD (sp_law_join K) [] (WE (W0 E)) (tCons (tOp (rIx K) (tVar 7) (tC (.int 1))) (tCons (tLst (tCons (tC (.int 0)) tNil)) tNil))) (tCons (tVar 15) tNil))) (tCons (tC (.bl false)) tNil)))) (gName 12)) (tSeq (tFor (iRng1 (tCons (tC (.int 4)) tNil)) (gName 13) (tIfS (tOr (tNot (tB (tCB (rIsiA K) (tCons (tOp (rIx K) (tVar 11) (tVar 13)) (tCons (tC (.ty "bool")) tNil))))) (tTest (tOp (rNeA K) (tOp (rIx K) (tVar 11) (tVar 13)) (tOp (rIx K) (tVar 12) (tVar 13))))) (tRet (tC (.bl false))) tNext)) (tRet (tCallSD (sp_law_fine K) [] (WE (W0 E)) (tCons (tVar 6) (tCons (tVar 14) (tCons (tVar 15) (tCons (tVar 4) (tCons (tVar 16) tNil)))))))))))))))))))))))))))))
def sp_law (K : Frg) : Sp := fun vs H Q E => vs.length = 1 ∧ t_law K E { nx := fun _ H' => Q .non H', rt := Q } (start N_law vs) H
theorem sc_law : FnScope N_law ["_law_script"] (defScope s_law) := ⟨rfl, rfl, rfl, by decide +kernel, rfl, by decide +kernel, by decide +kernel⟩
theorem ok_law (T : Txt PROG K mg) : ∃ fd, FnOk PROG w K mg base (L2.CX PROG w) 6 (Rz.pG "law" K) fd ["_law_script"] (sp_law K) ∧ FunD K "law" "law" (defArgs s_law) (defBody s_law) (defScope s_law) [] [] (Rz.pG "law" K) fd := by
  obtain ⟨fd_law_pool, G_law_pool, D_law_pool⟩ := ok_law_pool (w := w) (base := base) T
  obtain ⟨fd_law_alphabet, G_law_alphabet, D_law_alphabet⟩ := ok_law_alphabet (w := w) (base := base) T
  obtain ⟨fd_law_machine_of, G_law_machine_of, D_law_machine_of⟩ := ok_law_machine_of (w := w) (base := base) T
  obtain ⟨fd_law_pick, G_law_pick, D_law_pick⟩ := ok_law_pick (w := w) (base := base) T
  obtain ⟨fd_Machine_init, G_Machine_init, D_Machine_init⟩ := ok_Machine_init (w := w) (base := base) T
  obtain ⟨fd_law_fine, G_law_fine, D_law_fine⟩ := ok_law_fine (w := w) (base := base) T
  obtain ⟨fd_law_graph_of, G_law_graph_of, D_law_graph_of⟩ := ok_law_graph_of (w := w) (base := base) T
  obtain ⟨fd_law_walk_on, G_law_walk_on, D_law_walk_on⟩ := ok_law_walk_on (w := w) (base := base) T
  obtain ⟨fd_law_as_row, G_law_as_row, D_law_as_row⟩ := ok_law_as_row (w := w) (base := base) T
  obtain ⟨fd_Machine_ends, G_Machine_ends, D_Machine_ends⟩ := ok_Machine_ends (w := w) (base := base) T
  obtain ⟨fd_law_read, G_law_read, D_law_read⟩ := ok_law_read (w := w) (base := base) T
  obtain ⟨fd_law_odd_sign, G_law_odd_sign, D_law_odd_sign⟩ := ok_law_odd_sign (w := w) (base := base) T
  obtain ⟨fd_Machine_contains, G_Machine_contains, D_Machine_contains⟩ := ok_Machine_contains (w := w) (base := base) T
  obtain ⟨fd_Row_signs, G_Row_signs, D_Row_signs⟩ := ok_Row_signs (w := w) (base := base) T
  obtain ⟨fd_law_meets, G_law_meets, D_law_meets⟩ := ok_law_meets (w := w) (base := base) T
  obtain ⟨fd_law_spelling, G_law_spelling, D_law_spelling⟩ := ok_law_spelling (w := w) (base := base) T
  obtain ⟨fd_law_join, G_law_join, D_law_join⟩ := ok_law_join (w := w) (base := base) T
  have b_law_pool_1 : Binds K fd_law_pool _ [] := D_law_pool.bindsN (ps := ["_law_script"]) (fun _ _ _ _ _ _ us hl => match us, hl with | [_], _ => rfl)
  have b_law_alphabet_2 : Binds K fd_law_alphabet _ [] := D_law_alphabet.bindsN (ps := ["_law_draws", "_law_many"]) (fun _ _ _ _ _ _ us hl => match us, hl with | [_, _], _ => rfl)
  have b_law_machine_of_2 : Binds K fd_law_machine_of _ [] := D_law_machine_of.bindsN (ps := ["_law_draws", "_law_signs"]) (fun _ _ _ _ _ _ us hl => match us, hl with | [_, _], _ => rfl)
  have b_law_pick_2 : Binds K fd_law_pick _ [] := D_law_pick.bindsN (ps := ["_law_draws", "_law_many"]) (fun _ _ _ _ _ _ us hl => match us, hl with | [_, _], _ => rfl)
  have b_Machine_init_5 : Binds K fd_Machine_init _ [] := D_Machine_init.bindsN (ps := ["self", "states", "last", "edges", "free"]) (fun _ _ _ _ _ _ us hl => match us, hl with | [_, _, _, _, _], _ => rfl)
  have b_law_fine_5 : Binds K fd_law_fine _ [] := D_law_fine.bindsN (ps := ["_law_machine", "_law_many", "_law_last", "_law_edges", "_law_free"]) (fun _ _ _ _ _ _ us hl => match us, hl with | [_, _, _, _, _], _ => rfl)
  have b_law_graph_of_3 : Binds K fd_law_graph_of _ [] := D_law_graph_of.bindsN (ps := ["_law_many", "_law_edges", "_law_free"]) (fun _ _ _ _ _ _ us hl => match us, hl with | [_, _, _], _ => rfl)
  have b_law_walk_on_4 : Binds K fd_law_walk_on _ [] := D_law_walk_on.bindsN (ps := ["_law_draws", "_law_edges", "_law_start", "_law_signs"]) (fun _ _ _ _ _ _ us hl => match us, hl with | [_, _, _, _], _ => rfl)
  have b_law_as_row_1 : Binds K fd_law_as_row _ [] := D_law_as_row.bindsN (ps := ["_law_pairs"]) (fun _ _ _ _ _ _ us hl => match us, hl with | [_], _ => rfl)
  have b_Machine_ends_3 : Binds K fd_Machine_ends _ [] := D_Machine_ends.bindsN (ps := ["self", "start", "row"]) (fun _ _ _ _ _ _ us hl => match us, hl with | [_, _, _], _ => rfl)
  have b_law_read_3 : Binds K fd_law_read _ [] := D_law_read.bindsN (ps := ["_law_graph", "_law_states", "_law_row"]) (fun _ _ _ _ _ _ us hl => match us, hl with | [_, _, _], _ => rfl)
  have b_law_odd_sign_1 : Binds K fd_law_odd_sign _ [] := D_law_odd_sign.bindsN (ps := ["_law_draws"]) (fun _ _ _ _ _ _ us hl => match us, hl with | [_], _ => rfl)
  have b_Machine_contains_2 : Binds K fd_Machine_contains _ [] := D_Machine_contains.bindsN (ps := ["self", "part"]) (fun _ _ _ _ _ _ us hl => match us, hl with | [_, _], _ => rfl)
  have b_Row_signs_1 : Binds K fd_Row_signs _ [] := D_Row_signs.bindsN (ps := ["self"]) (fun _ _ _ _ _ _ us hl => match us, hl with | [_], _ => rfl)
  have b_law_meets_2 : Binds K fd_law_meets _ [] := D_law_meets.bindsN (ps := ["_law_states", "_law_last"]) (fun _ _ _ _ _ _ us hl => match us, hl with | [_, _], _ => rfl)
  have b_law_spelling_2 : Binds K fd_law_spelling _ [] := D_law_spelling.bindsN (ps := ["_law_graph", "_law_text"]) (fun _ _ _ _ _ _ us hl => match us, hl with | [_, _], _ => rfl)
  have b_law_join_2 : Binds K fd_law_join _ [] := D_law_join.bindsN (ps := ["_law_spreads", "_law_states"]) (fun _ _ _ _ _ _ us hl => match us, hl with | [_, _], _ => rfl)
  obtain ⟨fd, F⟩ := T.F_law
  refine ⟨fd, F.ok sc_law (fun vs H Q E h => h.1) (fun cdv A outer s H vs Q E hr h => ⟨t_law K E, ?_, h.2⟩), F⟩
  exact (pss_cons (ps_set (i := 1) sc_law.nd rfl (by first | exact Or.inl rfl | exact Or.inr rfl) (pe_callSD G_law_pool (hr.mono (by decide)) rfl T.g__law_pool D_law_pool.kp b_law_pool_1 .nil (fun σ => passAt (takes_of rfl rfl rfl rfl) σ) (pa_cons (pv 0) pa_nil))) (pss_cons (ps_set (i := 2) sc_law.nd rfl (by first | exact Or.inl rfl | exact Or.inr rfl) (pe_callSD G_law_alphabet (hr.mono (by decide)) rfl T.g__law_alphabet D_law_alphabet.kp b_law_alphabet_2 .nil (fun σ => passAt (takes_of rfl rfl rfl rfl) σ) (pa_cons (pv 1) (pa_cons pe_int pa_nil)))) (pss_cons (ps_asg (pe_callSD G_law_machine_of (hr.mono (by decide)) rfl T.g__law_machine_of D_law_machine_of.kp b_law_machine_of_2 .nil (fun σ => passAt (takes_of rfl rfl rfl rfl) σ) (pa_cons (pv 1) (pa_cons (pv 2) pa_nil))) (pg_tup rfl (pgs_cons (pg_name (i := 14) sc_law.nd rfl (by first | exact Or.inl rfl | exact Or.inr rfl)) (pgs_cons (pg_name (i := 15) sc_law.nd rfl (by first | exact Or.inl rfl | exact Or.inr rfl)) (pgs_cons (pg_name (i := 4) sc_law.nd rfl (by first | exact Or.inl rfl | exact Or.inr rfl)) (pgs_cons (pg_name (i := 16) sc_law.nd rfl (by first | exact Or.inl rfl | exact Or.inr rfl)) pgs_nil)))))) (pss_cons (ps_if (pt_cmpR (op_eqA hr) (pe_callSD G_law_pick (hr.mono (by decide)) rfl T.g__law_pick D_law_pick.kp b_law_pick_2 .nil (fun σ => passAt (takes_of rfl rfl rfl rfl) σ) (pa_cons (pv 1) (pa_cons pe_int pa_nil))) pe_int (nomark _)) (pss_one (by first | (refine ps_setLc (i := 4) (own := [("_law_edge", 17)]) rfl sc_law.nd rfl rfl ?e ?f ?g ?h ?i ?j; (case e => exact sw_true rfl rfl rfl (by decide +kernel)); (case f => exact (pi_list (pv 4))); (case g => exact (blkOk_by (own := [("_law_edge", 17)]) (N := N_law) (sc := defScope s_law) (by decide +kernel))); (case h => exact (fun _ _ _ _ _ => (pg_name (i := 17) sc_law.nd rfl (by first | exact Or.inl rfl | exact Or.inr rfl)))); (case i => exact (fun _ _ _ _ _ => pts_nil)); (case j => exact (fun _ _ _ _ _ => (pe_tup (pa_cons (pe_ix ix_seq (pv 17) pe_int (fun _ _ => rfl)) (pa_cons (pe_ix ix_seq (pv 17) pe_int (fun _ _ => rfl)) (pa_cons (pe_op op_addA (pe_ix ix_seq (pv 17) pe_int (fun _ _ => rfl)) pe_int) (pa_cons (pe_ix ix_seq (pv 17) pe_int (fun _ _ => rfl)) pa_nil)))))))) | exact (ps_set (i := 4) sc_law.nd rfl (by first | exact Or.inl rfl | exact Or.inr rfl) (pe_lc (own := [("_law_edge", 17)]) rfl sc_law.nd (pi_list (pv 4)) (blkOk_by (own := [("_law_edge", 17)]) (N := N_law) (sc := defScope s_law) (by decide +kernel)) (fun _ _ _ _ _ => (pg_name (i := 17) sc_law.nd rfl (by first | exact Or.inl rfl | exact Or.inr rfl))) (fun _ _ _ _ _ => pts_nil) (fun _ _ _ _ _ => (pe_tup (pa_cons (pe_ix ix_seq (pv 17) pe_int (fun _ _ => rfl)) (pa_cons (pe_ix ix_seq (pv 17) pe_int (fun _ _ => rfl)) (pa_cons (pe_op op_addA (pe_ix ix_seq (pv 17) pe_int (fun _ _ => rfl)) pe_int) (pa_cons (pe_ix ix_seq (pv 17) pe_int (fun _ _ => rfl)) pa_nil)))))))))) pss_nil) (pss_cons (ps_set (i := 3) sc_law.nd rfl (by first | exact Or.inl rfl | exact Or.inr rfl) (pe_callSD G_law_pick (hr.mono (by decide)) rfl T.g__law_pick D_law_pick.kp b_law_pick_2 .nil (fun σ => passAt (takes_of rfl rfl rfl rfl) σ) (pa_cons (pv 1) (pa_cons (pv 14) pa_nil)))) (pss_cons (ps_set (i := 4) sc_law.nd rfl (by first | exact Or.inl rfl | exact Or.inr rfl) (pe_op op_addA (pv 4) (pe_slice sl_A (pv 4) (po_some pe_int) (po_some pe_int)))) (pss_cons (ps_set (i := 5) sc_law.nd rfl (by first | exact Or.inl rfl | exact Or.inr rfl) (pe_tup (pa_cons (pe_op op_addA (pv 15) (pe_slice sl_A (pv 15) po_none (po_some pe_int))) (pa_cons (pe_callTy c_list rfl T.f_list (by decide +kernel) (pa_cons (pv 4) pa_nil)) (pa_cons (pe_op op_addA (pv 16) (pe_slice sl_A (pv 16) po_none (po_some pe_int))) pa_nil))))) (pss_cons (ps_set (i := 6) sc_law.nd rfl (by first | exact Or.inl rfl | exact Or.inr rfl) (pe_makeS T.mk_Machine G_Machine_init (hr.mono (by decide)) rfl T.g_Machine b_Machine_init_5 .nil (fun σ => passAt (takes_of rfl rfl rfl rfl) σ) (pa_cons (pv 14) (pa_cons (pe_ix ix_seq (pv 5) pe_int (fun _ _ => rfl)) (pa_cons (pe_ix ix_seq (pv 5) pe_int (fun _ _ => rfl)) (pa_cons (pe_ix ix_seq (pv 5) pe_int (fun _ _ => rfl)) pa_nil)))))) (pss_cons (ps_if (pt_cmpR (op_neA hr) (pv 5) (pe_tup (pa_cons (pe_op op_addA (pv 15) (pe_slice sl_A (pv 15) po_none (po_some pe_int))) (pa_cons (pv 4) (pa_cons (pe_op op_addA (pv 16) (pe_slice sl_A (pv 16) po_none (po_some pe_int))) pa_nil)))) (nomark _)) (pss_one (ps_ret pe_bl)) pss_nil) (pss_cons (ps_expr (pe_bm PySem.F.plainAttrs_list PySem.F.slot_list_append PySem.F.type_list_append mt_append (pe_ix ix_seq (pv 5) pe_int (fun _ _ => rfl)) (pa_cons pe_int pa_nil))) (pss_cons (ps_expr (pe_bm PySem.F.plainAttrs_list PySem.F.slot_list_append PySem.F.type_list_append mt_append (pe_ix ix_seq (pv 5) pe_int (fun _ _ => rfl)) (pa_cons (pe_tup (pa_cons pe_int (pa_cons pe_str (pa_cons pe_int (pa_cons pe_int pa_nil))))) pa_nil))) (pss_cons (ps_expr (pe_bm PySem.F.plainAttrs_list PySem.F.slot_list_append PySem.F.type_list_append mt_append (pe_ix ix_seq (pv 5) pe_int (fun _ _ => rfl)) (pa_cons (pe_tup (pa_cons pe_int (pa_cons (pe_op op_subA (pv 14) pe_int) pa_nil))) pa_nil))) (pss_cons (ps_if (pt_not (pt_val (pe_callSD G_law_fine (hr.mono (by decide)) rfl T.g__law_fine D_law_fine.kp b_law_fine_5 .nil (fun σ => passAt (takes_of rfl rfl rfl rfl) σ) (pa_cons (pv 6) (pa_cons (pv 14) (pa_cons (pv 15) (pa_cons (pv 4) (pa_cons (pv 16) pa_nil)))))))) (pss_one (ps_ret pe_bl)) pss_nil) (pss_cons (ps_set (i := 7) sc_law.nd rfl (by first | exact Or.inl rfl | exact Or.inr rfl) (pe_callSD G_law_graph_of (hr.mono (by decide)) rfl T.g__law_graph_of D_law_graph_of.kp b_law_graph_of_3 .nil (fun σ => passAt (takes_of rfl rfl rfl rfl) σ) (pa_cons (pv 14) (pa_cons (pv 4) (pa_cons (pv 16) pa_nil))))) (pss_cons (ps_set (i := 8) sc_law.nd rfl (by first | exact Or.inl rfl | exact Or.inr rfl) (pe_callSD G_law_walk_on (hr.mono (by decide)) rfl T.g__law_walk_on D_law_walk_on.kp b_law_walk_on_4 .nil (fun σ => passAt (takes_of rfl rfl rfl rfl) σ) (pa_cons (pv 1) (pa_cons (pv 4) (pa_cons (pv 3) (pa_cons (pv 2) pa_nil)))))) (pss_cons (ps_set (i := 9) sc_law.nd rfl (by first | exact Or.inl rfl | exact Or.inr rfl) (pe_callSD G_law_as_row (hr.mono (by decide)) rfl T.g__law_as_row D_law_as_row.kp b_law_as_row_1 .nil (fun σ => passAt (takes_of rfl rfl rfl rfl) σ) (pa_cons (pv 8) pa_nil))) (pss_cons (ps_set (i := 10) sc_law.nd rfl (by first | exact Or.inl rfl | exact Or.inr rfl) (pe_methZ (pv 6) T.c_Machine T.m_Machine_ends G_Machine_ends (hr.mono (by decide)) b_Machine_ends_3 .nil (fun σ => passAt (takes_of rfl rfl rfl rfl) σ) (pa_cons (pv 3) (pa_cons (pv 9) pa_nil)))) (pss_cons (ps_if (PW.pt (pw_or (pt_not (pt_val (pe_callB c_isi rfl T.f_isinstance (by decide +kernel) (pa_cons (pv 10) (pa_cons (pe_bltn rfl T.f_list (by decide +kernel) rfl) pa_nil))))) (pw_or1 (pt_cmpR (op_neA hr) (pv 10) (pe_callSD G_law_read (hr.mono (by decide)) rfl T.g__law_read D_law_read.kp b_law_read_3 .nil (fun σ => passAt (takes_of rfl rfl rfl rfl) σ) (pa_cons (pv 7) (pa_cons (pe_lst (pa_cons (pv 3) pa_nil)) (pa_cons (pv 8) pa_nil)))) (nomark _))))) (pss_one (ps_ret pe_bl)) pss_nil) (pss_cons (ps_set (i := 11) sc_law.nd rfl (by first | exact Or.inl rfl | exact Or.inr rfl) (pe_lst (pa_cons (pe_inO T.m_Machine___contains__ G_Machine_contains (hr.mono (by decide)) b_Machine_contains_2 (fun σ => passAt (takes_of rfl rfl rfl rfl) σ) (pv 9) (pv 6) (by rfl)) (pa_cons (pe_inO T.m_Machine___contains__ G_Machine_contains (hr.mono (by decide)) b_Machine_contains_2 (fun σ => passAt (takes_of rfl rfl rfl rfl) σ) (pe_prop (pv 9) T.c_Row T.p_Row_signs G_Row_signs (hr.mono (by decide)) b_Row_signs_1 .nil passL rfl) (pv 6) (by rfl)) (pa_cons (pe_inO T.m_Machine___contains__ G_Machine_contains (hr.mono (by decide)) b_Machine_contains_2 (fun σ => passAt (takes_of rfl rfl rfl rfl) σ) pe_str (pv 6) (by rfl)) (pa_cons (pe_inO T.m_Machine___contains__ G_Machine_contains (hr.mono (by decide)) b_Machine_contains_2 (fun σ => passAt (takes_of rfl rfl rfl rfl) σ) (pe_op op_addA (pe_callSD G_law_odd_sign (hr.mono (by decide)) rfl T.g__law_odd_sign D_law_odd_sign.kp b_law_odd_sign_1 .nil (fun σ => passAt (takes_of rfl rfl rfl rfl) σ) (pa_cons (pv 1) pa_nil)) pe_str) (pv 6) (by rfl)) pa_nil)))))) (pss_cons (ps_set (i := 12) sc_law.nd rfl (by first | exact Or.inl rfl | exact Or.inr rfl) (pe_lst (pa_cons (pe_callSD G_law_meets (hr.mono (by decide)) rfl T.g__law_meets D_law_meets.kp b_law_meets_2 .nil (fun σ => passAt (takes_of rfl rfl rfl rfl) σ) (pa_cons (pe_callSD G_law_read (hr.mono (by decide)) rfl T.g__law_read D_law_read.kp b_law_read_3 .nil (fun σ => passAt (takes_of rfl rfl rfl rfl) σ) (pa_cons (pv 7) (pa_cons (pe_lst (pa_cons pe_int pa_nil)) (pa_cons (pv 8) pa_nil)))) (pa_cons (pv 15) pa_nil))) (pa_cons (pe_callSD G_law_meets (hr.mono (by decide)) rfl T.g__law_meets D_law_meets.kp b_law_meets_2 .nil (fun σ => passAt (takes_of rfl rfl rfl rfl) σ) (pa_cons (pe_callSD G_law_spelling (hr.mono (by decide)) rfl T.g__law_spelling D_law_spelling.kp b_law_spelling_2 .nil (fun σ => passAt (takes_of rfl rfl rfl rfl) σ) (pa_cons (pv 7) (pa_cons (pe_prop (pv 9) T.c_Row T.p_Row_signs G_Row_signs (hr.mono (by decide)) b_Row_signs_1 .nil passL rfl) pa_nil))) (pa_cons (pv 15) pa_nil))) pa_nil)))) (pss_cons (ps_set (i := 12) sc_law.nd rfl (by first | exact Or.inl rfl | exact Or.inr rfl) (pe_op op_addA (pv 12) (pe_lst (pa_cons (pe_callSD G_law_meets (hr.mono (by decide)) rfl T.g__law_meets D_law_meets.kp b_law_meets_2 .nil (fun σ => passAt (takes_of rfl rfl rfl rfl) σ) (pa_cons (pe_callSD G_law_join (hr.mono (by decide)) rfl T.g__law_join D_law_join.kp b_law_join_2 .nil (fun σ => passAt (takes_of rfl rfl rfl rfl) σ) (pa_cons (pe_ix ix_seq (pv 7) pe_int (fun _ _ => rfl)) (pa_cons (pe_lst (pa_cons pe_int pa_nil)) pa_nil))) (pa_cons (pv 15) pa_nil))) (pa_cons pe_bl pa_nil))))) (pss_cons (ps_for (passes_of rfl) rfl (pi_range1 rfl T.f_range (pa_cons pe_int pa_nil)) (pg_name (i := 13) sc_law.nd rfl (by first | exact Or.inl rfl | exact Or.inr rfl)) (pss_one (ps_if (PW.pt (pw_or (pt_not (pt_val (pe_callB c_isi rfl T.f_isinstance (by decide +kernel) (pa_cons (pe_ix ix_seq (pv 11) (pv 13) (fun _ _ => rfl)) (pa_cons (pe_bltn rfl T.f_bool (by decide +kernel) rfl) pa_nil))))) (pw_or1 (pt_cmpR (op_neA hr) (pe_ix ix_seq (pv 11) (pv 13) (fun _ _ => rfl)) (pe_ix ix_seq (pv 12) (pv 13) (fun _ _ => rfl)) (nomark _))))) (pss_one (ps_ret pe_bl)) pss_nil))) (pss_one (ps_ret (pe_callSD G_law_fine (hr.mono (by decide)) rfl T.g__law_fine D_law_fine.kp b_law_fine_5 .nil (fun σ => passAt (takes_of rfl rfl rfl rfl) σ) (pa_cons (pv 6) (pa_cons (pv 14) (pa_cons (pv 15) (pa_cons (pv 4) (pa_cons (pv 16) pa_nil))))))))))))))))))))))))))))))
end
theorem txt_of {K : Frg} {h : Heap} {mg : Str → Option Value} (KX : K.In h) (G : h.Ns mainGlobals mg) (c : Rz.SaysR fa fn K) : Txt PROG K mg where
  f_abs := He.free_ok KX G (c.fact 0)
  f_int := He.free_ok KX G (c.fact 1)
  f_range := He.free_ok KX G (c.fact 2)
  F_law_pool := c.fun_ 0
  g__law_pool := He.glo_ok KX G (c.fact 3)
  F_law_pick := c.fun_ 1
  f_len := He.free_ok KX G (c.fact 4)
  g__law_pick := He.glo_ok KX G (c.fact 5)
  F_law_alphabet := c.fun_ 2
  g__law_alphabet := He.glo_ok KX G (c.fact 6)
  F_law_machine_of := c.fun_ 3
  g__law_machine_of := He.glo_ok KX G (c.fact 7)
  f_list := He.free_ok KX G (c.fact 8)
  n_Machine_many := He.noat_ok (c.fact 9)
  c_Machine := He.cls_ok (c.fact 10)
  f_sorted := He.free_ok KX G (c.fact 11)
  f_set := He.free_ok KX G (c.fact 12)
  n_Machine_finals := He.noat_ok (c.fact 13)
  n_Machine_arcs := He.noat_ok (c.fact 14)
  n_Machine_leads := He.noat_ok (c.fact 15)
  n_Machine_outs := He.noat_ok (c.fact 16)
  n_Machine_onward := He.noat_ok (c.fact 17)
  F_Machine_init := c.fun_ 4
  mk_Machine := He.mkr_ok (c.fact 18)
  g_Machine := He.glo_ok KX G (c.fact 19)
  F_Machine_last := c.fun_ 5
  p_Machine_last := Rz.propB_ok (c.fact 20)
  ty_Row := Rz.tyB_ok (c.fact 21)
  i_Row_str := of_decide_eq_true (c.fact 22)
  f_isinstance := He.free_ok KX G (c.fact 23)
  f_bool := He.free_ok KX G (c.fact 24)
  F_law_is_int := c.fun_ 6
  F_Machine_states := c.fun_ 7
  p_Machine_states := Rz.propB_ok (c.fact 25)
  g__law_is_int := He.glo_ok KX G (c.fact 26)
  F_Machine_edges := c.fun_ 8
  m_Machine_edges := He.meth_ok (c.fact 27)
  F_law_unique := c.fun_ 9
  g__law_unique := He.glo_ok KX G (c.fact 28)
  F_Machine_free := c.fun_ 10
  m_Machine_free := He.meth_ok (c.fact 29)
  f_tuple := He.free_ok KX G (c.fact 30)
  f_str := He.free_ok KX G (c.fact 31)
  F_law_fine := c.fun_ 11
  g__law_fine := He.glo_ok KX G (c.fact 32)
  F_law_spread := c.fun_ 12
  g__law_spread := He.glo_ok KX G (c.fact 33)
  F_law_graph_of := c.fun_ 13
  g__law_graph_of := He.glo_ok KX G (c.fact 34)
  F_law_walk_on := c.fun_ 14
  g__law_walk_on := He.glo_ok KX G (c.fact 35)
  f_bytes := He.free_ok KX G (c.fact 36)
  F_as_string := c.fun_ 15
  g_as_string := He.glo_ok KX G (c.fact 37)
  f_enumerate := He.free_ok KX G (c.fact 38)
  k_SIGNS := He.str_ok KX G (c.fact 39)
  xb_BadSign := Rz.excB_ok (c.fact 40)
  n_BadSign_at := He.noat_ok (c.fact 41)
  x_BadSign := ⟨(Rz.excB_ok (c.fact 40)).1, He.noat_ok (c.fact 41), _, _, _, _, _, ("at" : Str), _, _, _, _, _, _, _, _, _, _, _, _, (Rz.iniB_ok (c.fact 42) (by decide +kernel) rfl (c.def_ 31).1 (c.def_ 31).2 rfl rfl), ⟨⟨rfl, by decide +kernel, by decide +kernel, by decide +kernel, ⟨_, rfl, rfl⟩, by decide +kernel⟩, by decide +kernel, by decide +kernel, by decide +kernel⟩, fun _ _ => ⟨_, rfl, rfl⟩, rfl, rfl, fun _ _ _ _ _ _ _ _ _ _ => rfl⟩
  f_super := He.free_ok KX G (c.fact 43)
  g_BadSign := He.glo_ok KX G (c.fact 44)
  F_check_text := c.fun_ 16
  g_check_text := He.glo_ok KX G (c.fact 45)
  xb_Uneven := Rz.excB_ok (c.fact 46)
  x_Uneven := ⟨(Rz.excB_ok (c.fact 46)).1, _, _, _, _, _, _, _, _, _, _, _, _, _, (Rz.iniB_ok (c.fact 47) (by decide +kernel) rfl (c.def_ 32).1 (c.def_ 32).2 rfl rfl), ⟨rfl, by decide +kernel, by decide +kernel, by decide +kernel, ⟨_, rfl, rfl⟩, by decide +kernel⟩, fun _ _ => ⟨_, rfl, rfl⟩, rfl, rfl, fun _ _ _ _ _ _ _ _ _ => rfl⟩
  g_Uneven := He.glo_ok KX G (c.fact 48)
  k_TOP := He.int_ok KX G (c.fact 49)
  xb_BadHeight := Rz.excB_ok (c.fact 50)
  n_BadHeight_height := He.noat_ok (c.fact 51)
  x_BadHeight := ⟨(Rz.excB_ok (c.fact 50)).1, He.noat_ok (c.fact 51), _, _, _, _, _, ("height" : Str), _, _, _, _, _, _, _, _, _, _, _, _, (Rz.iniB_ok (c.fact 52) (by decide +kernel) rfl (c.def_ 33).1 (c.def_ 33).2 rfl rfl), ⟨⟨rfl, by decide +kernel, by decide +kernel, by decide +kernel, ⟨_, rfl, rfl⟩, by decide +kernel⟩, by decide +kernel, by decide +kernel, by decide +kernel⟩, fun _ _ => ⟨_, rfl, rfl⟩, rfl, rfl, fun _ _ _ _ _ _ _ _ _ _ => rfl⟩
  g_BadHeight := He.glo_ok KX G (c.fact 53)
  f_zip := He.free_ok KX G (c.fact 54)
  n_Row_pairs := He.noat_ok (c.fact 55)
  c_Row := He.cls_ok (c.fact 56)
  F_Row_init := c.fun_ 17
  mk_Row := He.mkr_ok (c.fact 57)
  g_Row := He.glo_ok KX G (c.fact 58)
  F_law_as_row := c.fun_ 18
  g__law_as_row := He.glo_ok KX G (c.fact 59)
  F_reached := c.fun_ 19
  g_reached := He.glo_ok KX G (c.fact 60)
  F_Machine_spread := c.fun_ 20
  m_Machine_spread := He.meth_ok (c.fact 61)
  f_iter := He.free_ok KX G (c.fact 62)
  F_Row_iter := c.fun_ 21
  m_Row___iter__ := He.meth_ok (c.fact 63)
  F_Machine_ends := c.fun_ 22
  m_Machine_ends := He.meth_ok (c.fact 64)
  F_law_join := c.fun_ 23
  g__law_join := He.glo_ok KX G (c.fact 65)
  F_law_read := c.fun_ 24
  g__law_read := He.glo_ok KX G (c.fact 66)
  F_law_odd_sign := c.fun_ 25
  g__law_odd_sign := He.glo_ok KX G (c.fact 67)
  f_any := He.free_ok KX G (c.fact 68)
  F_Machine_contains := c.fun_ 26
  m_Machine___contains__ := He.meth_ok (c.fact 69)
  F_Row_signs := c.fun_ 27
  p_Row_signs := Rz.propB_ok (c.fact 70)
  F_law_meets := c.fun_ 28
  F_law_spelling := c.fun_ 29
  g__law_spelling := He.glo_ok KX G (c.fact 71)
  g__law_meets := He.glo_ok KX G (c.fact 72)
  F_law := c.fun_ 30
  g_law := He.glo_ok KX G (c.fact 73)
/- law: level 6, top 35 of 36 -/
end Lw

namespace Lw
open PySem PySem.Spec PyProof.Rows L2
/-! heaps -/
/-- all but what stands at d is as it was -/
def Keep (d : Addr) (H H' : Hp) : Prop := ∀ b o, b ≠ d → H b = some o → H' b = some o
theorem Keep.refl {d : Addr} {H : Hp} : Keep d H H := fun _ _ _ h => h
theorem Keep.trans {d : Addr} {H H1 H2 : Hp} (a : Keep d H H1) (b : Keep d H1 H2) : Keep d H H2 := fun c o n h => b c o n (a c o n h)
theorem Keep.new {d p : Addr} {H : Hp} {o : HO} (h : H p = none) : Keep d H (upd H p o) := fun b u _ e => by rw [upd_ne (ne_of_none e h)]; exact e
theorem Keep.at_ {d : Addr} {H : Hp} {o : HO} : Keep d H (upd H d o) := fun b u n e => by rw [upd_ne n]; exact e
theorem Keep.free {d p : Addr} {H H' : Hp} (k : Keep d H H') (hp : p ≠ d) (h : H' p = none) : H p = none := by
  cases e : H p with
  | none => rfl
  | some o => rw [k p o hp e] at h; cases h
theorem Keep.same {d : Addr} {H H' : Hp} (s : Same H H') : Keep d H H' := fun b o _ e => s b o e
theorem Same.new {p : Addr} {H : Hp} {o : HO} (h : H p = none) : Same H (upd H p o) := fun b u e => by rw [upd_ne (ne_of_none e h)]; exact e
/-- the draws: a list of ints at d, at most 4000 -/
def DrL (H : Hp) (d : Addr) : Prop := ∃ ds : List Int, ds.length ≤ 4000 ∧ H d = some (.lst (ds.map V.int))
theorem DrL.same {H H' : Hp} {d : Addr} (h : DrL H d) (s : Same H H') : DrL H' d := let ⟨ds, a, b⟩ := h; ⟨ds, a, s _ _ b⟩
theorem small2 {n : Nat} (h : n ≤ 16777216) : n ≤ sizeLine := by rw [sizeLine_eq]; exact h
theorem nilData {K : Frg} {H : Hp} {p : Addr} (h : H p = some (.lst [])) : Dp K H (.ref p) (.list []) := .lst (SqL.of h) .nil
theorem intsData {K : Frg} {H : Hp} : ∀ ds : List Int, DpAll K H (ds.map V.int) (ds.map PyData.int)
  | [] => .nil
  | i :: r => .cons (.int i) (intsData r)
theorem canLay_ints : ∀ ds : List Int, PyData.canLayAll0 (ds.map PyData.int) = true
  | [] => by simp [PyData.canLayAll0]
  | i :: r => by simp [PyData.canLayAll0, PyData.canLay0, canLay_ints r]
theorem depth_ints : ∀ ds : List Int, PyData.depthAll (ds.map PyData.int) = 0
  | [] => by simp [PyData.depthAll]
  | i :: r => by simp [PyData.depthAll, PyData.depth, depth_ints r]
theorem shaped_ints (ds : List Int) : SeqAt.shaped (.list (ds.map PyData.int)) = true := by
  simp [SeqAt.shaped, PyData.canLay0, canLay_ints, PyData.depth, depth_ints]
theorem eqv_nil (ds : List Int) : PyData.eqv (.list (ds.map PyData.int)) (.list []) = ds.isEmpty := by
  cases ds <;> simp [PyData.eqv, PyData.eqvAll]
theorem rd_bm {K : Frg} {T : String} {r : V → List V → Hp → VK → Prop} {to : TE} {t : TA} {σ : L2.St} {H : Hp} {Q : VK} (h : to σ H fun x H1 => tyV K T x H1 ∧ t σ H1 fun xs H2 => r x xs H2 Q) : tBM K T r to t σ H Q := h
theorem tyL {K : Frg} {H : Hp} {a : Addr} {xs : List V} (h : H a = some (.lst xs)) : tyV K "list" (.ref a) H := Or.inl ⟨rfl, _, Or.inl (Or.inl h)⟩
theorem append_go {H : Hp} {l : Addr} {xs : List V} {y : V} {Q : VK} (h : H l = some (.lst xs)) (hz : xs.length < 16777216) (q : Q .non (upd H l (.lst (xs ++ [y])))) : rAppend (.ref l) [y] H Q := ⟨l, xs, y, rfl, rfl, h, by rw [sizeLine_eq]; exact hz, q⟩
theorem mapI_app (ds : List Int) (i : Int) : ds.map V.int ++ [V.int i] = (ds ++ [i]).map V.int := by simp
theorem getI {ns : List Int} {i : Nat} {x : V} (h : (ns.map V.int)[i]? = some x) : ∃ z, ns[i]? = some z ∧ x = .int z := by
  rw [List.getElem?_map] at h
  cases e : ns[i]? with
  | none => rw [e] at h; cases h
  | some z => rw [e] at h; exact ⟨z, rfl, (Option.some.inj h).symm⟩
theorem rd_for {wi : TI} {g : TG} {tb : TS} {D : Ends} {σ : L2.St} {H : Hp} (h : wi σ H fun J H1 => ∃ W : Nat → Nat → L2.St → Hp → Prop, (∃ m, W 0 m σ H1) ∧ ∀ i m σ H, W i m σ H →
  (J.stop i H ∧ D.nx σ H) ∨ (J.go i H ∧ ∃ N : L2.St → Hp → Prop, (∀ σ' H', N σ' H' → ∃ m', m' < m ∧ W (i + 1) m' σ' H') ∧ ∀ x H', J.yld i H x H' → g x σ H' fun σ2 H2 => tb { D with nx := N, ct := N, bk := D.nx } σ2 H2)) : tFor wi g tb D σ H := h
theorem rd_rng1 {ta : TA} {σ : L2.St} {H : Hp} {R : It → Hp → Prop} (h : ta σ H fun vs H1 => ∃ j : Int, vs = [.int j] ∧ -(2 ^ 62) ≤ j ∧ j < 2 ^ 62 ∧ R (Itr 0 j.toNat) H1) : iRng1 ta σ H R := h
theorem rd_iList {K : Frg} {tl : TE} {σ : L2.St} {H : Hp} {R : It → Hp → Prop} (h : tl σ H fun x H1 => ∃ a, x = .ref a ∧ (∃ xs, SqL K H1 a xs) ∧ R (Itl K a) H1) : iList K tl σ H R := h
theorem mulS {i j : Int} (h1 : -1000000 ≤ j) (h2 : j ≤ 1000000) : CMul i j := .inr ⟨by omega, by omega⟩
theorem mulS' {i j : Int} (h1 : -1000000 ≤ i) (h2 : i ≤ 1000000) : CMul i j := .inl ⟨by omega, by omega⟩
theorem rd_enumS {ta : TA} {σ : L2.St} {H : Hp} {R : It → Hp → Prop} (h : ta σ H fun vs H1 => ∃ x, vs = [.str x] ∧ R (Ites x) H1) : iEnumS ta σ H R := h
theorem rd_gtup {K : Frg} {n : Nat} {t : TGs} {a : Addr} {xs : List V} {σ : L2.St} {H : Hp} {Q : L2.St → Hp → Prop} (h : H a = some (.tup xs)) (hl : xs.length = n) (q : t xs σ H Q) : gTup K n t (.ref a) σ H Q := ⟨a, xs, rfl, SqT.of h, hl, q⟩
theorem rd_gcons {t : TG} {u : TGs} {v : V} {r : List V} {σ : L2.St} {H : Hp} {Q : L2.St → Hp → Prop} (h : t v σ H fun σ' H' => u r σ' H' Q) : gCons t u (v :: r) σ H Q := ⟨v, r, rfl, h⟩
theorem rd_gnil {σ : L2.St} {H : Hp} {Q : L2.St → Hp → Prop} (h : Q σ H) : gNil [] σ H Q := ⟨rfl, h⟩
theorem rd_sfld {K : Frg} {ta tv : TE} {f : Str} {D : Ends} {σ : L2.St} {H : Hp} (h : tv σ H fun y H1 => ta σ H1 fun x H2 => ∃ a C dx fs, x = .ref a ∧ H2 a = some (.ins C dx fs) ∧ Cls K C ∧ NoAttr K C f ∧ fs.length < 1000 ∧ D.nx σ (upd H2 a (.ins C dx (putF f y fs)))) : sFld K ta tv f D σ H := h
theorem rd_m1 {r : V → List V → Hp → VK → Prop} {to te : TE} {σ : L2.St} {H : Hp} {Q : VK} (h : to σ H fun x H1 => (∃ a, x = .str a) ∧ te σ H1 fun y H2 => r x [y] H2 Q) : tM1 r to te σ H Q := h
theorem rd_lc {wi : TI} {g : TG} {tt : TT} {te : TE} {vs : List Nat} {σ : L2.St} {H : Hp} {Q : VK} (h : wi σ H fun J H1 => ∀ D, H1 D = none → ∃ W : Nat → Nat → Hp → Prop, (∃ m, W 0 m (upd H1 D (.lst []))) ∧ ∀ i m H, W i m H →
  (J.stop i H ∧ Q (.ref D) H) ∨ (J.go i H ∧ ∃ Nx : Hp → Prop, (∀ H', Nx H' → ∃ m', m' < m ∧ W (i + 1) m' H') ∧ ∀ x H', J.yld i H x H' → g x (wipe σ vs) H' fun σ2 H2 => wipe σ2 vs = wipe σ vs ∧ tt σ2 H2 fun b H3 =>
    if b = true then te σ2 H3 fun y H4 => ∃ acc, H4 D = some (.lst acc) ∧ acc.length < sizeLine ∧ Nx (upd H4 D (.lst (acc ++ [y]))) else Nx H3)) : tLc wi g tt te vs σ H Q := h
theorem rd_make {C : Addr} {sp : Sp} {dvs : List V} {EE : L2.St → XK} {tl : TA} {σ : L2.St} {H : Hp} {Q : VK} (h : tl σ H fun vs H1 => ∀ y dx, H1 y = none → H1 dx = none → dx ≠ y → sp (.ref y :: (vs ++ dvs)) (upd (upd H1 dx (.own y)) y (.ins C dx [])) (fun v H2 => v = .non ∧ Q (.ref y) H2) (EE σ)) :
    tMakeS C sp dvs EE tl σ H Q := h
theorem rd_fld {K : Frg} {ta : TE} {f : Str} {σ : L2.St} {H : Hp} {Q : VK} (h : ta σ H fun x H1 => ∃ a C dx fs v, x = .ref a ∧ H1 a = some (.ins C dx fs) ∧ Cls K C ∧ NoAttr K C f ∧ fs.lookup f = some v ∧ Q v H1) : tFld K ta f σ H Q := h
theorem rd_strO {C : Addr} {sp : Sp} {EE : L2.St → XK} {tl : TA} {σ : L2.St} {H : Hp} {Q : VK} (h : tl σ H fun vs H1 => ∃ a dx fs, vs = [.ref a] ∧ H1 a = some (.ins C dx fs) ∧ sp [.ref a] H1 (fun v H' => ∃ z, v = .str z ∧ Q (.str z) H') (EE σ)) : tStrO C sp EE tl σ H Q := h
theorem rd_xf {a : Addr} {cls : Value} {d : Option Addr} {C : Addr} {f : Str} {te : TE} {σ : L2.St} {H : Hp} {Q : VK} (h : te σ H fun x H1 => x = .ref a ∧ cls = .ref C ∧ ∃ (dd : Addr) (fs : List (Str × V)) (v : V), d = some dd ∧ H1 dd = some (.xd fs) ∧ fs.lookup f = some v ∧ Q v H1) : tXf a cls d C f te σ H Q := h
theorem rd_fmt {te : TE} {σ : L2.St} {H : Hp} {Q : VK} (h : te σ H fun x H1 => (∃ y : Str, x = .str y ∧ y.length ≤ sizeLine ∧ Q (.str y) H1) ∨ ∃ i : Int, x = .int i ∧ i.natAbs.log2 < 1920 ∧ Q (.str (toString i)) H1) : tFmt te σ H Q := h
theorem rd_prop {C : Addr} {sp : Sp} {dvs : List V} {E : XK} {ta : TE} {σ : L2.St} {H : Hp} {Q : VK} (h : ta σ H fun x H1 => ∃ a dx fs, x = .ref a ∧ H1 a = some (.ins C dx fs) ∧ sp (.ref a :: dvs) H1 Q E) : tProp C sp dvs E ta σ H Q := h
theorem rd_meth {C : Addr} {m : Str} {sp : Sp} {dvs : List V} {EE : L2.St → XK} {ta : TE} {tl : TA} {σ : L2.St} {H : Hp} {Q : VK} (h : ta σ H fun y H1 => ∃ a dx fs, y = .ref a ∧ H1 a = some (.ins C dx fs) ∧ fs.lookup m = none ∧ tl σ H1 fun vs H2 => sp (y :: (vs ++ dvs)) H2 Q (EE σ)) : tMethZ C m sp dvs EE ta tl σ H Q := h
theorem rd_tjs {t : TE} {ts : List TE} {acc : Str} {σ : L2.St} {H : Hp} {R : Str → Hp → Prop} (h : t σ H fun x H1 => ∃ y : Str, x = .str y ∧ (acc ++ y).length ≤ sizeLine ∧ tJs ts (acc ++ y) σ H1 R) : tJs (t :: ts) acc σ H R := h
theorem rd_tjs0 {acc : Str} {σ : L2.St} {H : Hp} {R : Str → Hp → Prop} (h : R acc H) : tJs [] acc σ H R := h
theorem rd_iteB {b : Bool} {A B : Prop} (e : b = true) (h : A) : if b = true then A else B := by rw [e]; exact h
theorem rd_iteC {b : Bool} {A B : Prop} (e : b = false) (h : B) : if b = true then A else B := by rw [e]; exact h
theorem does_some {c : Value} {i : Nat} {ts : TSu} {cls : Value} {d : Option Addr} {D : Ends} {σ : L2.St} {H : Hp} {a : Addr} (h : ts a cls d (D.drop i) (σ.set i (some (.ref a))) H) : (Clause.mk c (some i) ts).does cls d D σ H a := h
theorem does_none {c : Value} {ts : TSu} {cls : Value} {d : Option Addr} {D : Ends} {σ : L2.St} {H : Hp} {a : Addr} (h : ts a cls d D σ H) : (Clause.mk c none ts).does cls d D σ H a := h
/-! texts as lists of codes -/
def tx (l : List Nat) : Str := ⟨l.toArray⟩
theorem tx_toList (l : List Nat) : (tx l).cps.toList = l := by simp [tx]
theorem tx_self (z : Str) : tx z.cps.toList = z := by obtain ⟨c⟩ := z; simp [tx]
theorem tx_len (l : List Nat) : (tx l).length = l.length := by simp [tx, Str.length]
theorem tx_inj {l m : List Nat} : tx l = tx m ↔ l = m := ⟨fun h => by have := congrArg (fun z : Str => z.cps.toList) h; simpa [tx] using this, fun h => by rw [h]⟩
theorem tx_app (l m : List Nat) : tx l ++ tx m = tx (l ++ m) := by
  show (⟨l.toArray ++ m.toArray⟩ : Str) = _
  simp [tx]
theorem joinL_nil : ∀ ps : List (List Nat), TL.joinL [] ps = ps.flatten
  | [] => rfl
  | [p] => by simp [TL.joinL]
  | p :: q :: r => by
    show p ++ ([] ++ TL.joinL [] (q :: r)) = _
    rw [joinL_nil (q :: r)]
    simp
theorem flat_one : ∀ cs : List Nat, (cs.map fun c => [c]).flatten = cs
  | [] => rfl
  | c :: r => by rw [List.map_cons, List.flatten_cons, flat_one r]; rfl
theorem join_tx (ps : List (List Nat)) : Txt.join (Str.ofString "") (ps.map tx) = tx ps.flatten := by
  rw [TL.join_eq]
  have h := TL.tl_join (Str.ofString "") (ps.map tx)
  have e : (ps.map tx).map TL.tl = ps := by
    rw [List.map_map]
    conv => rhs; rw [← List.map_id ps]
    apply List.map_congr_left
    intro l _
    exact tx_toList l
  rw [e, show TL.tl (Str.ofString "") = [] from rfl, joinL_nil] at h
  rw [← h]
  exact (tx_self _).symm
theorem sIx_none (n d : Nat) : HT.sIx n d none = d := rfl
theorem sIx_nat (n d k : Nat) (h : k ≤ n) : HT.sIx n d (some (k : Int)) = k := by
  rw [HT.sIx_nat]
  omega
/-- the 26 letters -/
def letters : List Nat := (Str.ofString "abcdefghijklmnopqrstuvwxyz").cps.toList
/-- the first place that is no letter; -1 if there is none -/
def fo : List Nat → Int
  | [] => -1
  | c :: r => if c ∈ letters then (if fo r < 0 then -1 else fo r + 1) else 0
/-- the first i are letters, and the next is none -/
theorem fo_at : ∀ (l : List Nat) (i : Nat) (c : Nat), (∀ (j x : Nat), j < i → l[j]? = some x → x ∈ letters) → l[i]? = some c → c ∉ letters → fo l = i
  | [], i, c, _, h, _ => by simp at h
  | x :: r, 0, c, _, h, hc => by
    have e : x = c := Option.some.inj h
    unfold fo
    rw [e, if_neg hc]
    rfl
  | x :: r, i + 1, c, hp, h, hc => by
    have hx : x ∈ letters := hp 0 x (Nat.succ_pos _) rfl
    have := fo_at r i c (fun j y hj e => hp (j + 1) y (Nat.succ_lt_succ hj) e) h hc
    unfold fo
    rw [if_pos hx, this, if_neg (by omega)]
    omega
theorem fo_none : ∀ (l : List Nat), (∀ (j x : Nat), l[j]? = some x → x ∈ letters) → fo l = -1
  | [], _ => rfl
  | x :: r, hp => by
    have hx : x ∈ letters := hp 0 x rfl
    have := fo_none r (fun j y e => hp (j + 1) y e)
    unfold fo
    rw [if_pos hx, this]
    rfl
theorem tx_get (l : List Nat) (i : Nat) : (tx l).cps[i]? = l[i]? := by simp [tx]
theorem rd_iteG {b : Bool} {A B : Prop} (h1 : b = true → A) (h2 : b = false → B) : if b = true then A else B := by cases b with | true => exact h1 rfl | false => exact h2 rfl
local macro_rules | `(tactic| walk_at "rd") => `(tactic| first
  | (with_reducible refine rd_seq ?_) | (with_reducible refine rd_asg ?_) | (with_reducible refine rd_name ?_) | (with_reducible refine rd_drop ?_) | (with_reducible refine rd_ret ?_) | (with_reducible refine rd_retN ?_) | (with_reducible refine rd_next ?_)
  | (with_reducible refine rd_ifS ?_)
  | ((with_reducible show tVar _ _ _ _); refine rd_var rfl ?_)
  | (with_reducible refine rd_c ?_) | (with_reducible refine rd_op ?_) | (with_reducible refine rd_un ?_) | (with_reducible refine rd_neg ?_) | (with_reducible refine rd_cb ?_) | (with_reducible refine rd_nil ?_) | (with_reducible refine rd_cons ?_)
  | (with_reducible refine rd_test ?_) | (with_reducible refine rd_tb ?_) | ((with_reducible show ∃ k, V.bl _ = V.bl k ∧ _); refine ⟨_, rfl, ?_⟩) | (with_reducible refine rd_and ?_) | (with_reducible refine rd_or ?_) | (with_reducible refine rd_not ?_)
  | (with_reducible refine rd_andV ?_) | (with_reducible refine rd_orV ?_) | (with_reducible refine rd_notV ?_) | (with_reducible refine rd_ifE ?_)
  | (with_reducible refine rd_tup ?_) | (with_reducible refine rd_lst ?_) | (with_reducible refine rd_call ?_) | (with_reducible refine rd_joined ?_)
  | (with_reducible refine rd_raise ?_) | (with_reducible refine rd_mkx ?_) | (with_reducible refine rd_mkx0 ?_) | (with_reducible refine rd_try ?_)
  | (with_reducible refine rd_sl ?_) | (with_reducible refine rd_nopart ?_) | (with_reducible refine rd_part ?_) | ((with_reducible show ∃ k, V.int _ = V.int k ∧ _); refine ⟨_, rfl, ?_⟩) | (with_reducible refine rd_chain ?_) | (with_reducible refine rd_yes ?_)
  | (with_reducible refine rd_iteT ?_) | (with_reducible refine rd_iteF ?_)
  | (with_reducible refine addA_int ?_) | (with_reducible refine i0_go ?_) | (with_reducible refine ltA_int ?_) | (with_reducible refine eqA_int ?_) | (with_reducible refine neA_int ?_) | (with_reducible refine eqA_str ?_) | (with_reducible refine neA_str ?_)
  | ((with_reducible refine mulA_int ?c ?_); case c => first | exact mulS (by omega) (by omega) | exact mulS' (by omega) (by omega))
  | ((with_reducible refine i_go ?c ?_); case c => first | ((with_reducible show (0 : Int) < _); omega) | exact ⟨by decide, by decide⟩ | exact ⟨by decide, by decide, by decide⟩)
  | (with_reducible refine intA_int ?_) | (with_reducible refine rd_bm ?_) | (with_reducible refine rd_for ?_) | (with_reducible refine rd_rng1 ?_) | (with_reducible refine rd_iList ?_) | (with_reducible refine rd_enumS ?_) | (with_reducible refine rd_gcons ?_) | (with_reducible refine rd_gnil ?_) | (with_reducible refine rd_sfld ?_) | (with_reducible refine rd_m1 ?_) | (with_reducible refine rd_lc ?_) | (with_reducible refine rd_make ?_) | (with_reducible refine rd_fld ?_)
  | (with_reducible refine rd_strO ?_) | (with_reducible refine rd_xf ?_) | (with_reducible refine rd_fmt ?_) | (with_reducible refine rd_prop ?_) | (with_reducible refine rd_meth ?_) | (with_reducible refine does_some ?_) | (with_reducible refine does_none ?_) | ((with_reducible show List.length _ ≤ sizeLine ∧ _); refine ⟨small2 (by simp), ?_⟩)
  | (with_reducible refine rd_tjs ?_) | (with_reducible refine rd_tjs0 ?_))
local macro_rules | `(tactic| walk_at "go") => `(tactic| repeat walk_at "rd")
local macro_rules | `(tactic| walk_at "all") => `(tactic| repeat' (first
  | walk_at "rd"
  | ((with_reducible show if _ = true then _ else _); first | refine rd_iteB rfl ?_ | refine rd_iteC rfl ?_ | refine rd_ite (fun _ => ?_) (fun _ => ?_) | refine rd_iteN (fun _ => ?_) (fun _ => ?_) | refine rd_iteG (fun _ => ?_) (fun _ => ?_))))
variable {K : Frg}
theorem rd_iStr {te : TE} {σ : L2.St} {H : Hp} {R : It → Hp → Prop} (h : te σ H fun v H1 => ∃ x, v = .str x ∧ R (Its x) H1) : iStr te σ H R := h
theorem rd_zipS {K : Frg} {ta : TA} {σ : L2.St} {H : Hp} {Q : VK} (h : ta σ H fun vs H1 => rZipS K vs H1 Q) : tZipS K ta σ H Q := h
theorem rd_lenO {C : Addr} {sp : Sp} {E : L2.St → XK} {t : TA} {σ : L2.St} {H : Hp} {Q : VK} (h : t σ H fun vs H1 => rLenO C sp E σ vs H1 Q) : tLenO C sp E t σ H Q := h
theorem rd_absO {C : Addr} {sp : Sp} {E : L2.St → XK} {t : TA} {σ : L2.St} {H : Hp} {Q : VK} (h : t σ H fun vs H1 => ∃ a dx fs, vs = [.ref a] ∧ H1 a = some (.ins C dx fs) ∧ sp [.ref a] H1 Q (E σ)) : tAbsO C sp E t σ H Q := h
theorem rd_listO {C : Addr} {spI spL : Sp} {E : L2.St → XK} {t : TA} {σ : L2.St} {H : Hp} {Q : VK} (h : t σ H fun vs H1 => rListO C spI spL E σ vs H1 Q) : tListO C spI spL E t σ H Q := h
theorem rd_gsub {to ti : TE} {r : V → V → V → Hp → (Hp → Prop) → Prop} {σ : L2.St} {H : Hp} {v : V} {Q : L2.St → Hp → Prop} (h : to σ H fun x H1 => ti σ H1 fun i H2 => r x i v H2 fun H3 => Q σ H3) : gSub to ti r v σ H Q := h
local macro_rules | `(tactic| walk_at "rd") => `(tactic| first
  | (with_reducible refine rd_iStr ?_) | (with_reducible refine rd_zipS ?_) | (with_reducible refine rd_lenO ?_) | (with_reducible refine rd_absO ?_) | (with_reducible refine rd_listO ?_) | (with_reducible refine rd_gsub ?_))
/-! the draws -/
theorem pick_ok {d : Addr} {m : Int} {H : Hp} {Q : VK} {E : XK} (hm : 0 < m) (hd : DrL H d) (h : ∀ r H', 0 ≤ r → r < m → Keep d H H' → DrL H' d → Q (.int r) H') : sp_law_pick K [.ref d, .int m] H Q E := by
  obtain ⟨ds, hl, hd⟩ := hd
  refine ⟨rfl, ?_⟩
  unfold t_law_pick
  walk_at "go"
  intro p hp
  have hdp : (upd H p (.lst [])) d = some (.lst (ds.map V.int)) := by rw [upd_ne (ne_of_none hd hp)]; exact hd
  refine eqA_data (.lst (SqL.of hdp) (intsData ds)) (nilData upd_same) (shaped_ints ds) (shaped_ints []) (eqv_nil ds) ⟨_, rfl, ?_⟩
  cases ds with
  | nil =>
    refine rd_iteT ?_
    walk_at "go"
    exact h 0 _ (by omega) hm (Keep.new hp) ⟨[], Nat.zero_le _, hdp⟩
  | cons i r =>
    refine rd_iteF ?_
    walk_at "go"
    refine ⟨tyL hdp, ?_⟩
    walk_at "go"
    refine ⟨d, _, 0, 0, .int i, rfl, rfl, hdp, by decide, by decide, ?_, rfl, ?_⟩
    · show seqIndex? 0 (List.length ((i :: r).map V.int)) = some 0
      simp [seqIndex?]
    · walk_at "go"
      refine h _ _ (Int.emod_nonneg _ (by omega)) (Int.emod_lt_of_pos _ hm) ((Keep.new hp).trans Keep.at_) ⟨r, Nat.le_of_succ_le hl, ?_⟩
      rw [upd_same]
      rfl

theorem pool_ok {a : Addr} {ns : List Int} {H : Hp} {Q : VK} {E : XK} (hS : SqL K H a (ns.map V.int)) (hn : ns.length ≤ 63) (h : ∀ d H', Same H H' → H d = none → DrL H' d → Q (.ref d) H') : sp_law_pool K [.ref a] H Q E := by
  refine ⟨rfl, ?_⟩
  unfold t_law_pool
  walk_at "go"
  intro d hd
  walk_at "go"
  refine ⟨a, rfl, ⟨_, (Same.new hd).seq hS⟩, ?_⟩
  refine for_list (K := K) (a := a) (xs := ns.map V.int) (fun i σ H2 => ∃ (seed : Int) (v3 v4 v5 v6 : Option V) (ds : List Int), σ = [some (.ref a), some (.ref d), some (.int seed), v3, v4, v5, v6] ∧ 0 ≤ seed ∧ seed < 1009 ∧ ds.length ≤ 60 * i ∧
    Same H H2 ∧ H2 d = some (.lst (ds.map V.int))) ⟨0, none, none, none, none, [], rfl, by omega, by omega, Nat.le_refl _, Same.new hd, upd_same⟩ (fun i σ H2 _ ⟨_, _, _, _, _, _, _, _, _, _, s2, _⟩ => s2.seq hS) ?_ ?_
  · rintro i x σ H2 hi ⟨seed, v3, v4, v5, v6, ds, rfl, h0, h1, hl, s2, e2⟩
    obtain ⟨z, hz, rfl⟩ := getI hi
    have hi63 : i < 63 := by have := (List.getElem?_eq_some_iff.mp hz).1; omega
    have free : ∀ {H3 : Hp}, H3 = upd H2 d (.lst (ds.map V.int)) → H3 = H2 := fun {H3} e => by
      rw [e]; funext b; by_cases hb : b = d
      · rw [hb, upd_same, e2]
      · rw [upd_ne hb]
    walk_at "go"
    refine ⟨z, rfl, ?_⟩
    walk_at "go"
    have n0 := Int.emod_nonneg (seed * 31 + (if z < 0 then -z else z)) (by decide : (1009 : Int) ≠ 0)
    have n1 := Int.emod_lt_of_pos (seed * 31 + (if z < 0 then -z else z)) (by decide : (0 : Int) < 1009)
    generalize (seed * 31 + (if z < 0 then -z else z)) % 1009 = seed' at n0 n1 ⊢
    generalize (if z < 0 then -z else z) = rest
    walk_at "go"
    refine rd_ite (fun hlt => ?_) (fun hge => ?_)
    · walk_at "go"
      refine ⟨tyL e2, ?_⟩
      walk_at "go"
      refine append_go e2 (by rw [List.length_map]; omega) ?_
      refine ⟨seed', _, _, _, _, ds ++ [rest], rfl, n0, n1, by rw [List.length_append, List.length_singleton]; omega, fun b o e => ?_, by rw [upd_same, mapI_app]⟩
      rw [upd_ne (ne_of_none e hd)]
      exact s2 b o e
    · walk_at "go"
      refine ⟨60, rfl, by decide, by decide, ?_⟩
      refine forR (n := 60) (fun k σ H3 => ∃ (v4 v5 : Option V) (r : Int) (es : List Int), σ = [some (.ref a), some (.ref d), some (.int seed'), some (.int z), v4, some (.int r), v6] ∧ es.length ≤ 60 * i + k ∧ Same H H3 ∧ H3 d = some (.lst (es.map V.int)))
        ⟨_, none, rest, ds, rfl, hl, s2, e2⟩ ?_ ?_
      · rintro k σ H3 hk ⟨v4', v5', r, es, rfl, hl3, s3, e3⟩
        walk_at "go"
        refine rd_ite (fun hlt => ?_) (fun hge => ?_)
        · walk_at "go"
          refine ⟨tyL e3, ?_⟩
          walk_at "go"
          refine append_go e3 (by rw [List.length_map]; omega) ?_
          walk_at "go"
          refine ⟨_, none, _, es ++ [r % 1000], rfl, by rw [List.length_append, List.length_singleton]; omega, fun b o e => ?_, by rw [upd_same, mapI_app]⟩
          rw [upd_ne (ne_of_none e hd)]
          exact s3 b o e
        · walk_at "go"
          exact ⟨_, none, r, es, rfl, by omega, s3, e3⟩
      · rintro σ H3 ⟨v4', v5', r, es, rfl, hl3, s3, e3⟩
        refine ⟨seed', _, _, _, _, es, rfl, n0, n1, ?_, s3, e3⟩
        have : (60 : Int).toNat = 60 := rfl
        omega
  · rintro σ H2 ⟨seed, v3, v4, v5, v6, ds, rfl, h0, h1, hl, s2, e2⟩
    rw [List.length_map] at hl
    walk_at "go"
    refine ⟨90, rfl, by decide, by decide, ?_⟩
    refine forR (n := 90) (fun k σ H3 => ∃ (v4 v6 : Option V) (es : List Int), σ = [some (.ref a), some (.ref d), some (.int seed), v3, v4, v5, v6] ∧ es.length ≤ 60 * ns.length + k ∧ Same H H3 ∧ H3 d = some (.lst (es.map V.int)))
      ⟨_, _, ds, rfl, hl, s2, e2⟩ ?_ ?_
    · rintro k σ H3 hk ⟨v4', v6', es, rfl, hl3, s3, e3⟩
      walk_at "go"
      generalize hw : ((seed + 1) * ((3 * (k : Int) * k + 5 * k) / 2 + 7)) % 1009 = w'
      have w0 : 0 ≤ w' := by rw [← hw]; exact Int.emod_nonneg _ (by decide)
      have w1 : w' < 1009 := by rw [← hw]; exact Int.emod_lt_of_pos _ (by decide)
      walk_at "go"
      refine ⟨tyL e3, ?_⟩
      walk_at "go"
      refine append_go e3 (by rw [List.length_map]; omega) ?_
      refine ⟨_, _, es ++ [(w' * w' + (k : Int)) % 1013], rfl, by rw [List.length_append, List.length_singleton]; omega, fun b o e => ?_, by rw [upd_same, mapI_app]⟩
      rw [upd_ne (ne_of_none e hd)]
      exact s3 b o e
    · rintro σ H3 ⟨v4', v6', es, rfl, hl3, s3, e3⟩
      walk_at "go"
      refine h d H3 s3 hd ⟨es, ?_, e3⟩
      have : (90 : Int).toNat = 90 := rfl
      omega
/-- check_text -/
theorem check_ok {l : List Nat} {H : Hp} {Q : VK} {E : XK} (h : fo l = -1 → ∀ H', Same H H' → Q .non H')
    (hE : 0 ≤ fo l → ∀ H' d, Same H H' → H' d = none → E (.ref (He.ga K "BadSign")) (some d) (upd H' d (.xd [("at", .int (fo l))]))) : sp_check_text K [.str (tx l)] H Q E := by
  refine ⟨rfl, ?_⟩
  unfold t_check_text
  walk_at "go"
  refine ⟨_, rfl, for_it walk_enumS (fun i σ H2 => Same H H2 ∧ (∃ v v', σ = [some (.str (tx l)), v, v']) ∧ ∀ (j x : Nat), j < i → l[j]? = some x → x ∈ letters) ⟨Same.refl _, ⟨none, none, rfl⟩, fun j x hj _ => absurd hj (Nat.not_lt_zero _)⟩ (fun _ _ _ _ _ => trivial) ?_ ?_⟩
  · rintro i x σ H2 H3 hi ⟨s2, ⟨v, v', rfl⟩, hp⟩ ⟨T, c, rfl, hT, hc, rfl⟩
    rw [tx_get] at hc
    refine rd_gtup upd_same rfl ?_
    walk_at "go"
    refine notInA_sign ?_
    walk_at "go"
    have s3 : Same H (upd H2 T (.tup [.int (i : Nat), .str ⟨#[c]⟩])) := s2.trans (Same.new hT)
    refine rd_iteN (fun hc' => ?_) (fun hc' => ?_)
    · have e := fo_at l i c hp hc hc'
      rw [e] at hE
      walk_at "go"
      exact ⟨_, rfl, fun d hd => hE (by omega) _ d s3 hd⟩
    · walk_at "go"
      refine ⟨s3, ⟨_, _, rfl⟩, fun j x hj e => ?_⟩
      by_cases hji : j = i
      · subst hji
        rw [hc] at e
        rw [← Option.some.inj e]
        exact hc'
      · exact hp j x (by omega) e
  · rintro σ H2 ⟨s2, _, hp⟩
    refine h (fo_none l fun j x e => hp j x ?_ e) H2 s2
    have := (List.getElem?_eq_some_iff.mp e).1
    show j < (tx l).cps.size
    simpa [tx] using this
/-! Row -/
/-- the pairs that stand in the list at D -/
def Prs (H : Hp) (D : Addr) (ps : List (Nat × Int)) : Prop := ∃ as : List Addr, H D = some (.lst (as.map V.ref)) ∧ as.length = ps.length ∧ ∀ (j : Nat) (a : Addr) (p : Nat × Int), as[j]? = some a → ps[j]? = some p → H a = some (.tup [.str (tx [p.1]), .int p.2])
theorem Prs.same {H H' : Hp} {D : Addr} {ps : List (Nat × Int)} (h : Prs H D ps) (s : Same H H') : Prs H' D ps := let ⟨as, a, b, c⟩ := h; ⟨as, s _ _ a, b, fun j x p e f => s _ _ (c j x p e f)⟩
theorem Prs.keep {H H' : Hp} {D e : Addr} {xs : List V} {ps : List (Nat × Int)} (h : Prs H D ps) (k : Keep e H H') (n : D ≠ e) (he : H e = some (.lst xs)) : Prs H' D ps := by
  obtain ⟨as, a, b, c⟩ := h
  refine ⟨as, k _ _ n a, b, fun j x p e1 e2 => k _ _ (fun q => ?_) (c j x p e1 e2)⟩
  have := c j x p e1 e2
  rw [q, he] at this
  cases this
def RowAt (K : Frg) (H : Hp) (y D : Addr) (ps : List (Nat × Int)) : Prop := (∃ dx, H y = some (.ins (He.ga K "Row") dx [("pairs", .ref D)])) ∧ Prs H D ps
theorem RowAt.same {H H' : Hp} {y D : Addr} {ps : List (Nat × Int)} (h : RowAt K H y D ps) (s : Same H H') : RowAt K H' y D ps := let ⟨⟨dx, a⟩, b⟩ := h; ⟨⟨dx, s _ _ a⟩, b.same s⟩
theorem RowAt.keep {H H' : Hp} {y D e : Addr} {xs : List V} {ps : List (Nat × Int)} (h : RowAt K H y D ps) (k : Keep e H H') (n : D ≠ e) (he : H e = some (.lst xs)) : RowAt K H' y D ps := by
  obtain ⟨⟨dx, a⟩, b⟩ := h
  exact ⟨⟨dx, k _ _ (fun q => by rw [q, he] at a; cases a) a⟩, b.keep k n he⟩
theorem look_pairs (v : V) : List.lookup ("pairs" : Str) [(("pairs" : Str), v)] = some v := by simp [List.lookup]
/-- the first height out of range -/
def badH (hs : List Int) : Option Int := hs.find? fun h => !decide (0 ≤ h ∧ h ≤ 9)
theorem badH_at : ∀ (hs : List Int) (i : Nat) (z : Int), (∀ (j : Nat) (x : Int), j < i → hs[j]? = some x → 0 ≤ x ∧ x ≤ 9) → hs[i]? = some z → ¬ (0 ≤ z ∧ z ≤ 9) → badH hs = some z
  | [], i, z, _, h, _ => by simp at h
  | x :: r, 0, z, _, h, hz => by
    have e : x = z := Option.some.inj h
    unfold badH
    rw [List.find?_cons_of_pos (by rw [e, decide_eq_false hz]; rfl), e]
  | x :: r, i + 1, z, hp, h, hz => by
    have hx := hp 0 x (Nat.succ_pos _) rfl
    have := badH_at r i z (fun j y hj e => hp (j + 1) y (Nat.succ_lt_succ hj) e) h hz
    unfold badH at this ⊢
    rw [List.find?_cons_of_neg (by rw [decide_eq_true hx]; decide), this]
theorem badH_none : ∀ (hs : List Int), (∀ (j : Nat) (x : Int), hs[j]? = some x → 0 ≤ x ∧ x ≤ 9) → badH hs = none
  | [], _ => rfl
  | x :: r, hp => by
    have hx := hp 0 x rfl
    have := badH_none r fun j y e => hp (j + 1) y e
    unfold badH at this ⊢
    rw [List.find?_cons_of_neg (by rw [decide_eq_true hx]; decide), this]
theorem as_string_ok {z : Str} {H : Hp} {Q : VK} {E : XK} (h : Q (.str z) H) : sp_as_string K [.str z] H Q E := by
  refine ⟨rfl, ?_⟩
  unfold t_as_string
  walk_at "go"
  refine isi_go (.ty _) (.base (.str _)) (kit_ty (r := false) (by decide +kernel)) ?_
  walk_at "all"
  exact h
theorem rep0 (n : Nat) : (List.replicate n [V.int 0]).flatten = (List.replicate n (0 : Int)).map V.int := by
  induction n with
  | zero => rfl
  | succ n ih => rw [List.replicate_succ, List.flatten_cons, ih, List.replicate_succ, List.map_cons]; rfl
theorem row_init_ok {P : Program} {mg : Str → Option Value} (T : Txt P K mg) {y dx : Addr} {l : List Nat} {hs : List Int} {hv : V} {H : Hp} {Q : VK} {E : XK} (hl : l.length ≤ 10000) (hh : hs.length ≤ 10000) (hy : H y = some (.ins (He.ga K "Row") dx []))
    (arg : (∃ b, hv = .ref b ∧ H b = some (.lst (hs.map V.int))) ∨ (hv = .non ∧ hs = List.replicate l.length 0))
    (h : fo l = -1 → hs.length = l.length → badH hs = none → ∀ D H', Keep y H H' → H D = none → H' y = some (.ins (He.ga K "Row") dx [("pairs", .ref D)]) → Prs H' D (l.zip hs) → Q .non H')
    (hE1 : 0 ≤ fo l → ∀ H' d, Same H H' → H' d = none → E (.ref (He.ga K "BadSign")) (some d) (upd H' d (.xd [("at", .int (fo l))])))
    (hE2 : fo l = -1 → hs.length ≠ l.length → ∀ H', Same H H' → E (.ref (He.ga K "Uneven")) none H')
    (hE3 : fo l = -1 → hs.length = l.length → ∀ z, badH hs = some z → ∀ H' d, Same H H' → H' d = none → E (.ref (He.ga K "BadHeight")) (some d) (upd H' d (.xd [("height", .int z)]))) :
    sp_Row_init K [.ref y, .str (tx l), hv] H Q E := by
  refine ⟨rfl, ?_⟩
  unfold t_Row_init
  walk_at "go"
  refine as_string_ok ?_
  walk_at "go"
  refine check_ok (fun e1 H1 s1 => ?_) hE1
  walk_at "go"
  refine ⟨rfl, ?_⟩
  rcases arg with ⟨b, rfl, hb0⟩ | ⟨rfl, er⟩
  · have hb := s1 _ _ hb0
    walk_at "all"
    have eL : (tx l).length = l.length := tx_len l
    refine lenA_lst (.of hb) ?_
    rw [List.length_map]
    walk_at "go"
    refine lenA_str (by rw [eL]; exact small2 (by omega)) ?_
    rw [eL]
    walk_at "go"
    refine rd_iteN (fun ne => ?_) (fun eq => ?_)
    · walk_at "go"
      exact hE2 e1 (by omega) _ s1
    · walk_at "go"
      have eq' : hs.length = l.length := by omega
      refine ⟨b, rfl, ⟨_, .of hb⟩, ?_⟩
      refine for_it (walk_list (xs := hs.map V.int)) (fun i σ H2 => Same H1 H2 ∧ (∃ v4, σ = [some (.ref y), some (.str (tx l)), some (.ref b), some (.str (tx l)), v4]) ∧ ∀ (j : Nat) (x : Int), j < i → hs[j]? = some x → 0 ≤ x ∧ x ≤ 9) ⟨Same.refl _, ⟨none, rfl⟩, fun j x hj _ => absurd hj (Nat.not_lt_zero _)⟩ (fun i σ H2 _ q => .of (q.1 _ _ hb)) ?_ ?_
      · rintro i x σ H2 H3 hi ⟨s2, ⟨v4, rfl⟩, hp⟩ ⟨rfl, hx⟩
        obtain ⟨z, hz, rfl⟩ := getI hx
        walk_at "go"
        refine rd_ite (fun c1 => ?_) (fun c1 => ?_)
        · walk_at "go"
          refine rd_iteN (fun c2 => ?_) (fun c2 => ?_)
          · walk_at "go"
            refine ⟨_, rfl, fun d hd => ?_⟩
            exact hE3 e1 eq' z (badH_at hs i z hp hz (by omega)) _ d (s1.trans s2) hd
          · walk_at "go"
            refine ⟨s2, ⟨_, rfl⟩, fun j x hj e => ?_⟩
            by_cases hji : j = i
            · subst hji
              rw [hz] at e
              have := Option.some.inj e
              omega
            · exact hp j x (by omega) e
        · walk_at "go"
          refine ⟨_, rfl, ?_⟩
          walk_at "go"
          refine ⟨_, rfl, fun d hd => ?_⟩
          exact hE3 e1 eq' z (badH_at hs i z hp hz (by omega)) _ d (s1.trans s2) hd
      · rintro σ H2 ⟨s2, ⟨v4, rfl⟩, hp⟩
        have ok := badH_none hs fun j x e => hp j x (by rw [List.length_map]; exact (List.getElem?_eq_some_iff.mp e).1) e
        walk_at "go"
        have s3 := s1.trans s2
        refine ⟨tx l, b, _, rfl, .of (s2 _ _ hb), by rw [List.length_map]; simp [tx]; omega, fun D as H4 k4 hD has hDas hlen eD pairs => ?_⟩
        have hy4 := k4 _ _ (s3 _ _ hy)
        have yD : D ≠ y := fun q => by rw [q, s3 _ _ hy] at hD; cases hD
        walk_at "go"
        refine ⟨y, _, dx, [], rfl, hy4, T.c_Row, T.n_Row_pairs, by decide, ?_⟩
        have free : H D = none := by
          cases e : H D with
          | none => rfl
          | some o => rw [s3 _ _ e] at hD; cases hD
        refine h e1 eq' ok D _ (fun c o n e => ?_) free upd_same ⟨as, ?_, ?_, ?_⟩
        · rw [upd_ne n]
          exact k4 _ _ (s3 _ _ e)
        · rw [upd_ne yD]; exact eD
        · rw [hlen, List.length_map, List.length_zip]; omega
        · rintro j a ⟨c, z⟩ ea ep
          obtain ⟨q1, q2⟩ := List.getElem?_zip_eq_some.mp ep
          have nay : a ≠ y := fun q => by
            have := has a (List.mem_of_getElem? ea)
            rw [q, s3 _ _ hy] at this
            cases this
          rw [upd_ne nay]
          exact pairs j a c (.int z) ea (by rw [tx_get]; exact q1) (by rw [List.getElem?_map, q2]; rfl)
  · walk_at "all"
    intro p hp
    have sp := Same.new (o := .lst [.int 0]) hp
    have hy1 := s1 _ _ hy
    walk_at "go"
    refine lenA_str (z := tx l) (by rw [tx_len]; exact small2 (by omega)) ?_
    rw [tx_len]
    refine .inr (.inl ⟨p, _, _, rfl, rfl, upd_same, by omega, by omega, by rw [List.length_singleton, sizeLine_eq]; omega, fun b hb9 => ?_⟩)
    rw [Int.toNat_natCast, rep0, ← er]
    have s1' := s1
    have s1 := (s1'.trans sp).trans (Same.new (o := .lst (hs.map V.int)) hb9)
    have hb : upd (upd H1 p (.lst [.int 0])) b (.lst (hs.map V.int)) b = some (.lst (hs.map V.int)) := upd_same
    generalize upd (upd H1 p (.lst [.int 0])) b (.lst (hs.map V.int)) = H1 at s1 hb
    walk_at "go"
    have eL : (tx l).length = l.length := tx_len l
    refine lenA_lst (.of hb) ?_
    rw [List.length_map]
    walk_at "go"
    refine lenA_str (by rw [eL]; exact small2 (by omega)) ?_
    rw [eL]
    walk_at "go"
    refine rd_iteN (fun ne => ?_) (fun eq => ?_)
    · walk_at "go"
      exact hE2 e1 (by omega) _ s1
    · walk_at "go"
      have eq' : hs.length = l.length := by omega
      refine ⟨b, rfl, ⟨_, .of hb⟩, ?_⟩
      refine for_it (walk_list (xs := hs.map V.int)) (fun i σ H2 => Same H1 H2 ∧ (∃ v4, σ = [some (.ref y), some (.str (tx l)), some (.ref b), some (.str (tx l)), v4]) ∧ ∀ (j : Nat) (x : Int), j < i → hs[j]? = some x → 0 ≤ x ∧ x ≤ 9) ⟨Same.refl _, ⟨none, rfl⟩, fun j x hj _ => absurd hj (Nat.not_lt_zero _)⟩ (fun i σ H2 _ q => .of (q.1 _ _ hb)) ?_ ?_
      · rintro i x σ H2 H3 hi ⟨s2, ⟨v4, rfl⟩, hp⟩ ⟨rfl, hx⟩
        obtain ⟨z, hz, rfl⟩ := getI hx
        walk_at "go"
        refine rd_ite (fun c1 => ?_) (fun c1 => ?_)
        · walk_at "go"
          refine rd_iteN (fun c2 => ?_) (fun c2 => ?_)
          · walk_at "go"
            refine ⟨_, rfl, fun d hd => ?_⟩
            exact hE3 e1 eq' z (badH_at hs i z hp hz (by omega)) _ d (s1.trans s2) hd
          · walk_at "go"
            refine ⟨s2, ⟨_, rfl⟩, fun j x hj e => ?_⟩
            by_cases hji : j = i
            · subst hji
              rw [hz] at e
              have := Option.some.inj e
              omega
            · exact hp j x (by omega) e
        · walk_at "go"
          refine ⟨_, rfl, ?_⟩
          walk_at "go"
          refine ⟨_, rfl, fun d hd => ?_⟩
          exact hE3 e1 eq' z (badH_at hs i z hp hz (by omega)) _ d (s1.trans s2) hd
      · rintro σ H2 ⟨s2, ⟨v4, rfl⟩, hp⟩
        have ok := badH_none hs fun j x e => hp j x (by rw [List.length_map]; exact (List.getElem?_eq_some_iff.mp e).1) e
        walk_at "go"
        have s3 := s1.trans s2
        refine ⟨tx l, b, _, rfl, .of (s2 _ _ hb), by rw [List.length_map]; simp [tx]; omega, fun D as H4 k4 hD has hDas hlen eD pairs => ?_⟩
        have hy4 := k4 _ _ (s3 _ _ hy)
        have yD : D ≠ y := fun q => by rw [q, s3 _ _ hy] at hD; cases hD
        walk_at "go"
        refine ⟨y, _, dx, [], rfl, hy4, T.c_Row, T.n_Row_pairs, by decide, ?_⟩
        have free : H D = none := by
          cases e : H D with
          | none => rfl
          | some o => rw [s3 _ _ e] at hD; cases hD
        refine h e1 eq' ok D _ (fun c o n e => ?_) free upd_same ⟨as, ?_, ?_, ?_⟩
        · rw [upd_ne n]
          exact k4 _ _ (s3 _ _ e)
        · rw [upd_ne yD]; exact eD
        · rw [hlen, List.length_map, List.length_zip]; omega
        · rintro j a ⟨c, z⟩ ea ep
          obtain ⟨q1, q2⟩ := List.getElem?_zip_eq_some.mp ep
          have nay : a ≠ y := fun q => by
            have := has a (List.mem_of_getElem? ea)
            rw [q, s3 _ _ hy] at this
            cases this
          rw [upd_ne nay]
          exact pairs j a c (.int z) ea (by rw [tx_get]; exact q1) (by rw [List.getElem?_map, q2]; rfl)
/-! what a row tells -/
theorem join_ok {L : Addr} {cs : List Nat} {H : Hp} {Q : VK} (eL : H L = some (.lst (cs.map fun c => V.str (tx [c])))) (hl : cs.length ≤ 10000) (h : Q (.str (tx cs)) H) : rJoinA K (.str (Str.ofString "")) [.ref L] H Q := by
  have e1 : (cs.map fun c => V.str (tx [c])) = ((cs.map fun c => [c]).map tx).map V.str := by simp
  refine ⟨_, L, (cs.map fun c => [c]).map tx, rfl, rfl, .inl (SqL.of (by rw [eL, e1])), ?_, ?_⟩
  · have hs : (((cs.map fun c => [c]).map tx).map fun x => x.length) = List.replicate cs.length 1 := by
      rw [List.map_map, List.map_map]
      apply List.eq_replicate_iff.mpr
      refine ⟨by simp, fun b hb => ?_⟩
      obtain ⟨c, _, rfl⟩ := List.mem_map.mp hb
      rfl
    rw [hs]
    simp
    show cs.length + cs.length * 0 ≤ 16777216
    omega
  · rw [join_tx, flat_one]
    exact h
theorem take_map {α β : Type} (f : α → β) (ps : List α) (i : Nat) (p : α) (h : ps[i]? = some p) : (ps.take i).map f ++ [f p] = (ps.take (i + 1)).map f := by
  have hi := (List.getElem?_eq_some_iff.mp h).1
  have e : ps[i] = p := (List.getElem?_eq_some_iff.mp h).2
  rw [List.take_succ_eq_append_getElem hi, List.map_append, List.map_singleton, e]
theorem prs_at {as : List Addr} {ps : List (Nat × Int)} {i : Nat} {x : V} (hl : as.length = ps.length) (h : (as.map V.ref)[i]? = some x) : ∃ a p, as[i]? = some a ∧ ps[i]? = some p ∧ x = .ref a := by
  rw [List.getElem?_map] at h
  cases e : as[i]? with
  | none => rw [e] at h; cases h
  | some a =>
    rw [e] at h
    have hi := (List.getElem?_eq_some_iff.mp e).1
    exact ⟨a, ps[i], rfl, List.getElem?_eq_getElem (by omega), (Option.some.inj h).symm⟩
theorem small3 {n : Nat} (h : n ≤ 10000) : n < sizeLine := by rw [sizeLine_eq]; omega
theorem row_signs_ok {P : Program} {mg : Str → Option Value} (T : Txt P K mg) {y D : Addr} {ps : List (Nat × Int)} {H : Hp} {Q : VK} {E : XK} (hn : ps.length ≤ 10000) (hy : RowAt K H y D ps)
    (h : ∀ H', Same H H' → Q (.str (tx (ps.map Prod.fst))) H') : sp_Row_signs K [.ref y] H Q E := by
  obtain ⟨⟨dx, hy⟩, as, hD, hl, hp⟩ := hy
  refine ⟨rfl, ?_⟩
  unfold t_Row_signs
  walk_at "go"
  refine ⟨⟨_, rfl⟩, ?_⟩
  walk_at "go"
  refine ⟨y, _, dx, _, _, rfl, hy, T.c_Row, T.n_Row_pairs, look_pairs _, D, rfl, ⟨_, .of hD⟩, ?_⟩
  intro L hL
  refine lc_it (walk_list (K := K) (a := D) (xs := as.map V.ref)) (fun i H2 => Same H H2 ∧ H2 L = some (.lst (((ps.take i).map Prod.fst).map fun c => V.str (tx [c])))) ⟨Same.new hL, by rw [upd_same]; rfl⟩ (fun i H2 _ q => .of (q.1 _ _ hD)) ?_ ?_
  · rintro i x H2 H3 hi ⟨s2, eL⟩ ⟨rfl, hx⟩
    obtain ⟨a, p, ea, ep, rfl⟩ := prs_at hl hx
    refine rd_gtup (s2 _ _ (hp i a p ea ep)) rfl ?_
    walk_at "go"
    refine ⟨rfl, ?_⟩
    walk_at "go"
    refine ⟨_, eL, by rw [List.length_map, List.length_map, List.length_take]; exact small3 (by omega), fun b o e => ?_, ?_⟩
    · rw [upd_ne (ne_of_none e hL)]
      exact s2 b o e
    · rw [upd_same, ← take_map Prod.fst ps i p ep, List.map_append]
      rfl
  · rintro H2 ⟨s2, eL⟩
    refine join_ok (cs := ps.map Prod.fst) ?_ (by rw [List.length_map]; exact hn) (h H2 s2)
    rw [eL, List.length_map, hl, List.take_length]
theorem row_iter_ok {P : Program} {mg : Str → Option Value} (T : Txt P K mg) {y D : Addr} {ps : List (Nat × Int)} {H : Hp} {Q : VK} {E : XK} (hy : RowAt K H y D ps) (h : ∀ it, H it = none → Q (.ref it) (upd H it (ItO D it 0))) : sp_Row_iter K [.ref y] H Q E := by
  obtain ⟨⟨dx, hy⟩, as, hD, hl, hp⟩ := hy
  refine ⟨rfl, ?_⟩
  unfold t_Row_iter
  walk_at "go"
  refine ⟨y, _, dx, _, _, rfl, hy, T.c_Row, T.n_Row_pairs, look_pairs _, ?_⟩
  walk_at "go"
  exact ⟨D, _, rfl, .of hD, h⟩
theorem rd_own {C : Addr} {sp : Sp} {E : L2.St → XK} {Pv : V → Hp → Prop} {ta tb : TE} {σ : L2.St} {H : Hp} {Q : VK} (h : ta σ H fun x H1 => tb σ H1 fun y H2 => ∃ a dx fs, x = .ref a ∧ H2 a = some (.ins C dx fs) ∧ Pv y H2 ∧ sp [.ref a, y] H2 Q (E σ)) : tOwn C sp E Pv ta tb σ H Q := h
theorem rd_inO {C : Addr} {sp : Sp} {E : L2.St → XK} {ta tb : TE} {σ : L2.St} {H : Hp} {Q : VK} (h : ta σ H fun x H1 => tb σ H1 fun y H2 => ∃ a dx fs, y = .ref a ∧ H2 a = some (.ins C dx fs) ∧ sp [.ref a, x] H2 (fun v H' => ∃ b, v = .bl b ∧ Q (.bl b) H') (E σ)) : tInO C sp E ta tb σ H Q := h
theorem rd_rmul {C : Addr} {sp : Sp} {E : L2.St → XK} {ta tb : TE} {σ : L2.St} {H : Hp} {Q : VK} (h : ta σ H fun x H1 => tb σ H1 fun y H2 => ∃ i a dx fs, x = .int i ∧ y = .ref a ∧ H2 a = some (.ins C dx fs) ∧ sp [.ref a, .int i] H2 Q (E σ)) : tRmul C sp E ta tb σ H Q := h
theorem rd_sli {ta tb : TE} {σ : L2.St} {H : Hp} {Q : VK} (h : ta σ H fun x H1 => tb σ H1 fun y H2 => ∃ i j, x = .int i ∧ y = .int j ∧ ∀ p, H2 p = none → Q (.ref p) (upd H2 p (Sli p i j))) : tSli ta tb σ H Q := h
theorem rd_gsubO {C : Addr} {sp : Sp} {E : L2.St → XK} {to ti : TE} {v : V} {σ : L2.St} {H : Hp} {Q : L2.St → Hp → Prop} (h : to σ H fun x H1 => ti σ H1 fun i H2 => ∃ a dx fs, x = .ref a ∧ H2 a = some (.ins C dx fs) ∧ sp [.ref a, i, v] H2 (fun _ H3 => Q σ H3) (E σ)) : gSubO C sp E to ti v σ H Q := h
theorem rd_dT {c : Prop} [Decidable c] {A B : Prop} (hc : c) (h : A) : if decide c = true then A else B := by rw [decide_eq_true hc]; exact h
theorem rd_dF {c : Prop} [Decidable c] {A B : Prop} (hc : ¬ c) (h : B) : if decide c = true then A else B := by rw [decide_eq_false hc]; exact h
theorem rd_nT {c : Prop} [Decidable c] {A B : Prop} (hc : c) (h : B) : if (!decide c) = true then A else B := by rw [decide_eq_true hc]; exact h
theorem rd_nF {c : Prop} [Decidable c] {A B : Prop} (hc : ¬ c) (h : A) : if (!decide c) = true then A else B := by rw [decide_eq_false hc]; exact h
theorem rd_caO {C : Addr} {sp : Sp} {dvs : List V} {E : L2.St → XK} {ta : TE} {t : TA} {σ : L2.St} {H : Hp} {Q : VK} (h : ta σ H fun y H1 => ∃ a, y = .ref a ∧ t σ H1 fun vs H2 => ∃ dx fs, H2 a = some (.ins C dx fs) ∧ sp (.ref a :: (vs ++ dvs)) H2 Q (E σ)) : tCaO C sp dvs E ta t σ H Q := h
theorem rd_caK {C : Addr} {n m : Nat} {sp : Sp} {gV : List V → List V → List V} {E : L2.St → XK} {ta : TE} {t tk : TA} {σ : L2.St} {H : Hp} {Q : VK} (h : ta σ H fun y H1 => ∃ a, y = .ref a ∧ t σ H1 fun vs H2 => tk σ H2 fun zs H3 => ∃ dx fs, H3 a = some (.ins C dx fs) ∧ vs.length = n ∧ zs.length = m ∧ sp (gV (.ref a :: vs) zs) H3 Q (E σ)) : tCaK C n m sp gV E ta t tk σ H Q := h
theorem rd_callNS {n m : Nat} {sp : Sp} {gV : List V → List V → List V} {E : L2.St → XK} {t tk : TA} {σ : L2.St} {H : Hp} {Q : VK} (h : t σ H fun vs H1 => tk σ H1 fun zs H2 => vs.length = n ∧ zs.length = m ∧ sp (gV vs zs) H2 Q (E σ)) : tCallNS n m sp gV E t tk σ H Q := h
/-- what the making of an instance asks -/
def MkG (C : Addr) (sp : Sp) (dvs vs : List V) (H1 : Hp) (Q : VK) (E : XK) : Prop := ∀ y dx, H1 y = none → H1 dx = none → dx ≠ y → sp (.ref y :: (vs ++ dvs)) (upd (upd H1 dx (.own y)) y (.ins C dx [])) (fun v H2 => v = .non ∧ Q (.ref y) H2) E
theorem rd_mkG {C : Addr} {sp : Sp} {dvs : List V} {EE : L2.St → XK} {t : TA} {σ : L2.St} {H : Hp} {Q : VK} (h : t σ H fun vs H1 => MkG C sp dvs vs H1 Q (EE σ)) : tMakeS C sp dvs EE t σ H Q := h
local macro_rules | `(tactic| walk_at "rd") => `(tactic| first
  | (with_reducible refine rd_mkG ?_) | (with_reducible refine rd_caO ?_) | (with_reducible refine rd_caK ?_) | (with_reducible refine rd_callNS ?_)
  | (with_reducible refine rd_own ?_) | (with_reducible refine rd_inO ?_) | (with_reducible refine rd_rmul ?_) | (with_reducible refine rd_sli ?_) | (with_reducible refine rd_gsubO ?_))

local macro_rules | `(tactic| walk_at "auto") => `(tactic| repeat (first
  | walk_at "rd"
  | ((with_reducible show if _ = true then _ else _); first | refine rd_iteB rfl ?_ | refine rd_iteC rfl ?_ | refine rd_dT (by first | omega | assumption) ?_ | refine rd_dF (by first | omega | assumption) ?_ | refine rd_nT (by first | omega | assumption) ?_ | refine rd_nF (by first | omega | assumption) ?_)))
local macro_rules | `(tactic| walk_at "st") => `(tactic| repeat ((fail_if_success (with_reducible show tSeq _ _ _ _ _)); first
  | walk_at "rd"
  | ((with_reducible show if _ = true then _ else _); first | refine rd_iteB rfl ?_ | refine rd_iteC rfl ?_ | refine rd_dT (by first | omega | assumption) ?_ | refine rd_dF (by first | omega | assumption) ?_ | refine rd_nT (by first | omega | assumption) ?_ | refine rd_nF (by first | omega | assumption) ?_)))
local macro_rules | `(tactic| walk_at "sq") => `(tactic| ((with_reducible show tSeq _ _ _ _ _); refine rd_seq ?_))
/-! whole numbers -/
theorem is_int_ok {i : Int} {H : Hp} {Q : VK} {E : XK} (h : Q (.bl true) H) : sp_law_is_int K [.int i] H Q E := by
  refine ⟨rfl, ?_⟩
  unfold t_law_is_int
  walk_at "go"
  refine isi_go (.ty _) (.base (.int i)) (kit_ty (r := true) (by decide +kernel)) ?_
  walk_at "all"
  refine isi_go (.ty _) (.base (.int i)) (kit_ty (r := false) (by decide +kernel)) ?_
  walk_at "go"
  exact h
/-! comprehensions over a list that only make new things -/
/-- a comprehension over the list x -/
def LcG (K : Frg) (x : V) (g : TG) (te : TE) (vs : List Nat) (σ : L2.St) (H1 : Hp) (Q : VK) : Prop := ∃ a, x = .ref a ∧ (∃ xs, SqL K H1 a xs) ∧
    ∀ D, H1 D = none → ∃ W : Nat → Nat → Hp → Prop, (∃ m, W 0 m (upd H1 D (.lst []))) ∧ ∀ i m H, W i m H →
      ((Itl K a).stop i H ∧ Q (.ref D) H) ∨ ((Itl K a).go i H ∧ ∃ Nx : Hp → Prop, (∀ H', Nx H' → ∃ m', m' < m ∧ W (i + 1) m' H') ∧ ∀ x H', (Itl K a).yld i H x H' → g x (wipe σ vs) H' fun σ2 H2 => wipe σ2 vs = wipe σ vs ∧ tYes σ2 H2 fun b H3 =>
        if b = true then te σ2 H3 fun y H4 => ∃ acc, H4 D = some (.lst acc) ∧ acc.length < sizeLine ∧ Nx (upd H4 D (.lst (acc ++ [y]))) else Nx H3)
theorem rd_lcL {tl : TE} {g : TG} {te : TE} {vs : List Nat} {σ : L2.St} {H : Hp} {Q : VK} (h : tl σ H fun x H1 => LcG K x g te vs σ H1 Q) : tLc (iList K tl) g tYes te vs σ H Q := h
local macro_rules | `(tactic| walk_at "rd") => `(tactic| (with_reducible refine rd_lcL ?_))
theorem yes_eq {te : TE} {w : L2.St → Prop} {C : VK} {N : Hp → Prop} : (fun (σ2 : L2.St) (H3 : Hp) => w σ2 ∧ te σ2 H3 C) = fun σ2 H3 => w σ2 ∧ tYes σ2 H3 fun b H4 => if b = true then te σ2 H4 C else N H4 := rfl
theorem lcV {a : Addr} {xs : List V} (ys : List V) {g : TG} {te : TE} {vs : List Nat} {σ : L2.St} {H1 : Hp} {Q : VK} (hS : SqL K H1 a xs) (hl : ys.length = xs.length) (hz : xs.length ≤ 100000)
    (hs : ∀ (i : Nat) (x y : V) (H2 : Hp) (C : VK), Same H1 H2 → xs[i]? = some x → ys[i]? = some y → (∀ H4, Same H2 H4 → C y H4) → g x (wipe σ vs) H2 fun σ2 H3 => wipe σ2 vs = wipe σ vs ∧ te σ2 H3 C)
    (hd : ∀ D H', Same H1 H' → H1 D = none → H' D = some (.lst ys) → Q (.ref D) H') :
    LcG K (.ref a) g te vs σ H1 Q := by
  refine ⟨a, rfl, ⟨_, hS⟩, fun D hD => ?_⟩
  refine lc_it (walk_list (K := K) (a := a) (xs := xs)) (fun i H2 => Same H1 H2 ∧ H2 D = some (.lst (ys.take i))) ⟨Same.new hD, by rw [upd_same]; rfl⟩ (fun i H2 _ q => q.1.seq hS) ?_ ?_
  · rintro i x H2 H3 hi ⟨s2, eD⟩ ⟨rfl, hx⟩
    have hy : ys[i]? = some ys[i] := List.getElem?_eq_getElem (by omega)
    refine (yes_eq ▸ hs i x _ H3 (fun y H4 => ∃ acc, H4 D = some (.lst acc) ∧ acc.length < sizeLine ∧ (fun H2 => Same H1 H2 ∧ H2 D = some (.lst (ys.take (i + 1)))) (upd H4 D (.lst (acc ++ [y])))) s2 hx hy ?_)
    intro H5 s5
    refine ⟨_, s5 _ _ eD, by rw [List.length_take, sizeLine_eq]; omega, fun b o e => ?_, ?_⟩
    · rw [upd_ne (ne_of_none e hD)]
      exact s5 _ _ (s2 _ _ e)
    · rw [upd_same, List.take_succ_eq_append_getElem (by omega)]
  · rintro H2 ⟨s2, eD⟩
    rw [← hl, List.take_length] at eD
    exact hd D H2 s2 hD eD
/-! rows made -/
def Okp (ps : List (Nat × Int)) : Prop := ∀ p ∈ ps, p.1 ∈ letters ∧ 0 ≤ p.2 ∧ p.2 ≤ 9
theorem Okp.app {ps qs : List (Nat × Int)} (a : Okp ps) (b : Okp qs) : Okp (ps ++ qs) := fun p h => (List.mem_append.mp h).elim (a p) (b p)
theorem Okp.sub {ps qs : List (Nat × Int)} (a : Okp ps) (h : ∀ p ∈ qs, p ∈ ps) : Okp qs := fun p m => a p (h p m)
theorem Okp.set {ps : List (Nat × Int)} {i c : Nat} {z : Int} (ok : Okp ps) (hc : c ∈ letters) (hz : 0 ≤ z ∧ z ≤ 9) : Okp (ps.set i (c, z)) := fun p h => by
  rcases List.mem_or_eq_of_mem_set h with h | h
  · exact ok p h
  · rw [h]; exact ⟨hc, hz⟩
theorem Okp.let {ps : List (Nat × Int)} (a : Okp ps) : ∀ p ∈ ps, p.1 ∈ letters := fun p h => (a p h).1
theorem fo_ok : ∀ {l : List Nat}, (∀ c ∈ l, c ∈ letters) → fo l = -1 := fun {l} h => fo_none l fun j x e => h x (List.mem_of_getElem? e)
theorem Okp.fo {ps : List (Nat × Int)} (a : Okp ps) : fo (ps.map Prod.fst) = -1 := fo_ok fun c h => by
  obtain ⟨p, hp, rfl⟩ := List.mem_map.mp h
  exact (a p hp).1
theorem Okp.bad {ps : List (Nat × Int)} (a : Okp ps) : badH (ps.map Prod.snd) = none := badH_none _ fun j x e => by
  obtain ⟨p, hp, rfl⟩ := List.mem_map.mp (List.mem_of_getElem? e)
  exact (a p hp).2
theorem zip_ps : ∀ ps : List (Nat × Int), (ps.map Prod.fst).zip (ps.map Prod.snd) = ps
  | [] => rfl
  | p :: r => by rw [List.map_cons, List.map_cons, List.zip_cons_cons, zip_ps r]
theorem keep_same {y dx : Addr} {C : Addr} {H H' : Hp} (hy : H y = none) (hdx : H dx = none) (k : Keep y (upd (upd H dx (.own y)) y (.ins C dx [])) H') : Same H H' := fun b o e => k b o (ne_of_none e hy) (by rw [upd_ne (ne_of_none e hy), upd_ne (ne_of_none e hdx)]; exact e)
theorem made_same {y dx : Addr} {C : Addr} {H : Hp} (hy : H y = none) (hdx : H dx = none) : Same H (upd (upd H dx (.own y)) y (.ins C dx [])) := fun b o e => by rw [upd_ne (ne_of_none e hy), upd_ne (ne_of_none e hdx)]; exact e
theorem Same.free {H H' : Hp} (s : Same H H') {a : Addr} (h : H' a = none) : H a = none := by
  cases e : H a with
  | none => rfl
  | some o => rw [s _ _ e] at h; cases h
theorem row_make_ok {P : Program} {mg : Str → Option Value} (T : Txt P K mg) {ps : List (Nat × Int)} {l : List Nat} {hs : List Int} {b : Addr} {H : Hp} {Q : VK} {E : XK} (hn : ps.length ≤ 10000) (hl : l = ps.map Prod.fst) (hh : hs = ps.map Prod.snd) (ok : Okp ps) (hb : H b = some (.lst (hs.map V.int)))
    (h : ∀ y D H', Same H H' → H y = none → H D = none → RowAt K H' y D ps → Q (.ref y) H') : MkG (He.ga K "Row") (sp_Row_init K) (List.drop 2 [.str "", .non]) [.str (tx l), .ref b] H Q E := by
  subst hl hh
  intro y dx hy hdx hne
  have s0 : Same H (upd (upd H dx (.own y)) y (.ins (He.ga K "Row") dx [])) := made_same hy hdx
  refine row_init_ok T (by rw [List.length_map]; exact hn) (by rw [List.length_map]; exact hn) upd_same (.inl ⟨b, rfl, s0 _ _ hb⟩) ?_ ?_ ?_ ?_
  · intro _ _ _ D H1 k1 hD hy1 pr
    rw [zip_ps] at pr
    exact ⟨rfl, h y D H1 (keep_same hy hdx k1) hy (s0.free hD) ⟨⟨dx, hy1⟩, pr⟩⟩
  · intro c; have := ok.fo; omega
  · intro _ c; exact absurd (by rw [List.length_map, List.length_map]) c
  · intro _ _ z c; rw [ok.bad] at c; cases c
theorem Prs.mapc {H : Hp} {M : Addr} {ps : List (Nat × Int)} (h : Prs H M ps) : ∃ as : List Addr, H M = some (.lst (as.map V.ref)) ∧ as.length = ps.length ∧ ∀ (j : Nat) (x : V) (p : Nat × Int), (as.map V.ref)[j]? = some x → ps[j]? = some p → ∃ a, x = .ref a ∧ H a = some (.tup [.str (tx [p.1]), .int p.2]) := by
  obtain ⟨as, hM, hl, hp⟩ := h
  refine ⟨as, hM, hl, fun j x p e1 e2 => ?_⟩
  obtain ⟨a, p', ea, ep, rfl⟩ := prs_at hl e1
  rw [e2] at ep
  cases ep
  exact ⟨a, rfl, hp j a p ea e2⟩
theorem var_set {σ : L2.St} {j : Nat} {v : V} {H : Hp} {Q : VK} (hj : j < σ.length) (h : Q v H) : tVar j ((σ.set j none).set j (some v)) H Q := ⟨v, by rw [List.getElem?_set_self (by rw [List.length_set]; exact hj)], h⟩
/-- [p[n] for p in ps] -/
theorem comp_ix {σ : L2.St} {M : Addr} {ps : List (Nat × Int)} {j : Nat} {H : Hp} {Q : VK} (n : Nat) (f : Nat × Int → V) (hf : ∀ p : Nat × Int, [V.str (tx [p.1]), V.int p.2][n]? = some (f p)) (hj : j < σ.length) (hM : Prs H M ps) (hn : ps.length ≤ 10000)
    (h : ∀ D H', Same H H' → H D = none → H' D = some (.lst (ps.map f)) → Q (.ref D) H') : LcG K (.ref M) (gName j) (tOp (rIx K) (tVar j) (tC (.int n))) [j] σ H Q := by
  obtain ⟨as, eM, hl, hp⟩ := hM.mapc
  refine lcV (ps.map f) (.of eM) (by simp [hl]) (by simp; omega) ?_ h
  intro i x y H2 C s2 hx hy hC
  rw [List.getElem?_map] at hy
  obtain ⟨p, hp2, rfl⟩ := Option.map_eq_some_iff.mp hy
  obtain ⟨a, rfl, ea⟩ := hp i x p hx hp2
  show (wipe ((σ.set j none).set j (some (.ref a))) [j] = wipe σ [j] ∧ _)
  refine ⟨by show ((σ.set j none).set j (some (.ref a))).set j none = σ.set j none; rw [List.set_set, List.set_set], ?_⟩
  refine rd_op (var_set hj ?_)
  exact ixA_tup (SqT.of (s2 _ _ ea)) (atI_nat (hf p)) (hC _ (Same.refl _))
theorem comp_fst {σ : L2.St} {M : Addr} {ps : List (Nat × Int)} {j : Nat} {H : Hp} {Q : VK} (hj : j < σ.length) (hM : Prs H M ps) (hn : ps.length ≤ 10000)
    (h : ∀ D H', Same H H' → H D = none → H' D = some (.lst ((ps.map Prod.fst).map fun c => V.str (tx [c]))) → Q (.ref D) H') : LcG K (.ref M) (gName j) (tOp (rIx K) (tVar j) (tC (.int 0))) [j] σ H Q :=
  comp_ix 0 (fun p => .str (tx [p.1])) (fun _ => rfl) hj hM hn fun D H' s f e => h D H' s f (by rw [e, List.map_map]; rfl)
theorem comp_snd {σ : L2.St} {M : Addr} {ps : List (Nat × Int)} {j : Nat} {H : Hp} {Q : VK} (hj : j < σ.length) (hM : Prs H M ps) (hn : ps.length ≤ 10000)
    (h : ∀ D H', Same H H' → H D = none → H' D = some (.lst ((ps.map Prod.snd).map V.int)) → Q (.ref D) H') : LcG K (.ref M) (gName j) (tOp (rIx K) (tVar j) (tC (.int 1))) [j] σ H Q :=
  comp_ix 1 (fun p => .int p.2) (fun _ => rfl) hj hM hn fun D H' s f e => h D H' s f (by rw [e, List.map_map]; rfl)
theorem as_row_ok {P : Program} {mg : Str → Option Value} (T : Txt P K mg) {M : Addr} {ps : List (Nat × Int)} {H : Hp} {Q : VK} {E : XK} (hn : ps.length ≤ 10000) (hM : Prs H M ps) (ok : Okp ps)
    (h : ∀ y D H', Same H H' → H y = none → H D = none → RowAt K H' y D ps → Q (.ref y) H') : sp_law_as_row K [.ref M] H Q E := by
  refine ⟨rfl, ?_⟩
  unfold t_law_as_row
  walk_at "go"
  refine ⟨⟨_, rfl⟩, ?_⟩
  walk_at "go"
  refine comp_fst (Nat.le_of_ble_eq_true rfl) hM hn fun L1 H1 s1 f1 e1 => ?_
  refine join_ok e1 (by rw [List.length_map]; exact hn) ?_
  walk_at "go"
  refine comp_snd (Nat.le_of_ble_eq_true rfl) (hM.same s1) hn fun L2 H2 s2 f2 e2 => ?_
  walk_at "go"
  have s := s1.trans s2
  exact row_make_ok T hn rfl rfl ok e2 fun y D H' s3 fy fD r => h y D H' (s.trans s3) (s.free fy) (s.free fD) r
/-! letters drawn -/
theorem filter_ne_len : ∀ (L : List Nat) (c : Nat), L.Nodup → L.length ≤ (L.filter fun x => decide (x ≠ c)).length + 1
  | [], _, _ => Nat.zero_le _
  | x :: r, c, h => by
    have hx : x ∉ r := (List.nodup_cons.mp h).1
    have hr := (List.nodup_cons.mp h).2
    by_cases e : x = c
    · have : (r.filter fun y => decide (y ≠ c)) = r := List.filter_eq_self.mpr fun y hy => decide_eq_true fun q => hx (by rw [e, ← q]; exact hy)
      rw [List.filter_cons_of_neg (by simp [e]), this]
      exact Nat.le_refl _
    · have := filter_ne_len r c hr
      rw [List.filter_cons_of_pos (by simp [e]), List.length_cons, List.length_cons]
      omega
theorem filter_out_len : ∀ (s L : List Nat), L.Nodup → L.length ≤ (L.filter fun x => decide (x ∉ s)).length + s.length
  | [], L, _ => by
    have : (L.filter fun x => decide (x ∉ ([] : List Nat))) = L := List.filter_eq_self.mpr fun y _ => decide_eq_true (by simp)
    rw [this]
    exact Nat.le_refl _
  | c :: s, L, h => by
    have h1 := filter_out_len s L h
    have h2 := filter_ne_len (L.filter fun x => decide (x ∉ s)) c (h.filter _)
    rw [List.filter_filter] at h2
    have e : (L.filter fun x => decide (x ≠ c) && decide (x ∉ s)) = L.filter fun x => decide (x ∉ c :: s) := by
      apply List.filter_congr
      intro x _
      by_cases a : x = c <;> by_cases b : x ∈ s <;> simp [a, b]
    rw [e] at h2
    rw [List.length_cons]
    omega
theorem letters_nodup : letters.Nodup := by decide +kernel
theorem letters_len : letters.length = 26 := by decide +kernel
theorem alphabet_ok {d : Addr} {m : Int} {H : Hp} {Q : VK} {E : XK} (h0 : 0 ≤ m) (h1 : m ≤ 20) (hd : DrL H d)
    (h : ∀ (s : List Nat) H', s.length = m.toNat → (∀ c ∈ s, c ∈ letters) → s.Nodup → Keep d H H' → DrL H' d → Q (.str (tx s)) H') : sp_law_alphabet K [.ref d, .int m] H Q E := by
  refine ⟨rfl, ?_⟩
  unfold t_law_alphabet
  walk_at "go"
  refine ⟨m, rfl, by omega, by omega, ?_⟩
  have ee : (Str.ofString "") = tx [] := by decide +kernel
  have el : (Str.ofString "abcdefghijklmnopqrstuvwxyz") = tx letters := (tx_self _).symm
  refine forR (n := m) (fun i σ H2 => ∃ (s : List Nat) (v4 v5 v6 : Option V), σ = [some (.ref d), some (.int m), some (.str (tx letters)), some (.str (tx s)), v4, v5, v6] ∧ s.length = i ∧ (∀ c ∈ s, c ∈ letters) ∧ s.Nodup ∧ Keep d H H2 ∧ DrL H2 d)
    ⟨[], none, none, none, by rw [← el, ← ee]; rfl, rfl, by simp, by simp, Keep.refl, hd⟩ ?_ ?_
  · rintro i σ H2 hi ⟨s, v4, v5, v6, rfl, hl, hs, nd, k2, d2⟩
    walk_at "go"
    refine ⟨_, rfl, ?_⟩
    intro L hL
    refine lc_it (walk_str (z := tx letters)) (fun j H3 => Same H2 H3 ∧ H3 L = some (.lst (((letters.take j).filter fun x => decide (x ∉ s)).map fun c => V.str (tx [c])))) ⟨Same.new hL, by rw [upd_same]; rfl⟩ (fun _ _ _ _ => trivial) ?_ ?_
    · rintro j x H3 H4 hj ⟨s3, eL⟩ ⟨rfl, c, hc, rfl⟩
      rw [tx_get] at hc
      have hlt := (List.getElem?_eq_some_iff.mp hc).1
      have etk : letters.take (j + 1) = letters.take j ++ [c] := by
        rw [List.take_succ_eq_append_getElem hlt, (List.getElem?_eq_some_iff.mp hc).2]
      walk_at "go"
      refine ⟨rfl, ?_⟩
      walk_at "go"
      refine notInA_sign ?_
      refine ⟨_, rfl, ?_⟩
      rw [tx_toList]
      refine rd_iteN (fun cs => ?_) (fun cs => ?_)
      · walk_at "go"
        refine ⟨_, eL, by rw [List.length_map, sizeLine_eq]; have := List.length_filter_le (fun x => decide (x ∉ s)) (letters.take j); have := List.length_take_le j letters; have := letters_len; omega, fun b o e => ?_, ?_⟩
        · rw [upd_ne (ne_of_none e hL)]
          exact s3 _ _ e
        · rw [upd_same, etk, List.filter_append, List.map_append]
          have e1 : ([c].filter fun x => decide (x ∉ s)) = [c] := by simp [cs]
          rw [e1]
          rfl
      · refine ⟨s3, ?_⟩
        have e1 : ([c].filter fun x => decide (x ∉ s)) = [] := by simp [cs]
        rw [eL, etk, List.filter_append, e1, List.append_nil]
    · rintro H3 ⟨s3, eL⟩
      have ez : (tx letters).cps.size = letters.length := tx_len letters
      rw [ez, List.take_length] at eL
      have fl := filter_out_len s letters letters_nodup
      rw [letters_len] at fl
      have d3 := d2.same s3
      have Ld : L ≠ d := fun q => by
        obtain ⟨_, _, e⟩ := d2
        rw [q] at hL
        rw [hL] at e
        cases e
      walk_at "go"
      refine lenA_lst (.of eL) ?_
      rw [List.length_map]
      walk_at "go"
      refine pick_ok (by omega) d3 fun q H4 q0 q1 k4 d4 => ?_
      obtain ⟨n, rfl⟩ : ∃ n : Nat, q = n := ⟨q.toNat, by omega⟩
      have hn : n < (letters.filter fun x => decide (x ∉ s)).length := by omega
      have hmem := List.mem_filter.mp (List.getElem_mem hn)
      refine ixA_lst (.of (k4 _ _ Ld eL)) (atI_nat (by rw [List.getElem?_map, List.getElem?_eq_getElem hn]; rfl)) ?_
      refine addA_str (by rw [tx_len, tx_len]; exact small2 (by simp; omega)) ?_
      rw [tx_app]
      walk_at "go"
      refine ⟨s ++ [_], _, _, _, rfl, by rw [List.length_append, hl]; rfl, fun c hc => ?_, ?_, ((k2.trans (Keep.same s3)).trans k4), d4⟩
      · rcases List.mem_append.mp hc with z | z
        · exact hs c z
        · rw [List.mem_singleton.mp z]; exact hmem.1
      · refine List.nodup_append.mpr ⟨nd, by simp, fun a ha b hb e => ?_⟩
        rw [List.mem_singleton.mp hb] at e
        have := of_decide_eq_true hmem.2
        rw [← e] at this
        exact this ha
  · rintro σ H2 ⟨s, v4, v5, v6, rfl, hl, hs, nd, k2, d2⟩
    walk_at "go"
    exact h s H2 hl hs nd k2 d2
theorem odd_ok {d : Addr} {H : Hp} {Q : VK} {E : XK} (hd : DrL H d) (h : ∀ (c : Nat) H', Keep d H H' → DrL H' d → Q (.str (tx [c])) H') : sp_law_odd_sign K [.ref d] H Q E := by
  refine ⟨rfl, ?_⟩
  unfold t_law_odd_sign
  walk_at "go"
  refine lenA_str (small2 (by decide)) ?_
  walk_at "go"
  refine pick_ok (by decide) hd fun r H1 r0 r1 k1 d1 => ?_
  obtain ⟨n, rfl⟩ : ∃ n : Nat, r = n := ⟨r.toNat, by omega⟩
  generalize hz : (Str.ofString " !\"#$&'()*+,-./0123456789:;<=>?@ABCDEFGHIJKLMNOPQRSTUVWXYZ[\\]^_`{|}~\n\t") = z at r1 ⊢
  have hn : n < z.cps.toList.length := by
    have : z.cps.toList.length = z.length := by simp [Str.length]
    omega
  exact ixA_str (by rw [← hz]; exact small2 (by decide)) (atI_nat (List.getElem?_eq_getElem hn)) (h _ H1 k1 d1)
/-! readings of dicts, methods without arguments, truth, loops -/
theorem rd_dget {td ty : TE} {σ : L2.St} {H : Hp} {Q : VK} (h : td σ H fun x H1 => ty σ H1 fun y H2 => ∃ a v, x = .ref a ∧ DGet H2 a y (some v) ∧ Q v H2) : tDGet td ty σ H Q := h
theorem rd_dget2 {td ty tx : TE} {σ : L2.St} {H : Hp} {Q : VK} (h : td σ H fun x H1 => ∃ a, x = .ref a ∧ IsD H1 a ∧ ty σ H1 fun y H2 => tx σ H2 fun z H3 => ∃ o, DGet H3 a y o ∧ Q (o.getD z) H3) : tDGet2 td ty tx σ H Q := h
theorem rd_din {ty td : TE} {σ : L2.St} {H : Hp} {Q : VK} (h : ty σ H fun y H1 => td σ H1 fun x H2 => ∃ a o, x = .ref a ∧ DGet H2 a y o ∧ Q (.bl o.isSome) H2) : tDIn ty td σ H Q := h
theorem rd_dnin {ty td : TE} {σ : L2.St} {H : Hp} {Q : VK} (h : ty σ H fun y H1 => td σ H1 fun x H2 => ∃ a o, x = .ref a ∧ DGet H2 a y o ∧ Q (.bl (!o.isSome)) H2) : tDNotIn ty td σ H Q := h
theorem rd_dput {td ty tv : TE} {D : Ends} {σ : L2.St} {H : Hp} (h : tv σ H fun v H1 => td σ H1 fun x H2 => ty σ H2 fun y H3 => ∃ a H4, x = .ref a ∧ DPut H3 a y v H4 ∧ D.nx σ H4) : sDPut td ty tv D σ H := h
theorem rd_dsetd {td ty tx : TE} {σ : L2.St} {H : Hp} {Q : VK} (h : td σ H fun x H1 => ∃ a, x = .ref a ∧ IsD H1 a ∧ ty σ H1 fun y H2 => tx σ H2 fun z H3 => ∃ (kvs : List (Key × V)) (k : Key), H3 a = some (.dK kvs) ∧ y = kV k ∧ kvs.length < sizeLine ∧
  (∀ v, valV kvs k = some v → Q v H3) ∧ (valV kvs k = none → Q z (upd H3 a (.dK (putK kvs k z))))) : tDSetd td ty tx σ H Q := h
theorem rd_dnewK {σ : L2.St} {H : Hp} {Q : VK} (h : ∀ p, H p = none → Q (.ref p) (upd H p (.dK []))) : tDNewK σ H Q := h
theorem rd_dnewT {σ : L2.St} {H : Hp} {Q : VK} (h : ∀ p, H p = none → Q (.ref p) (upd H p (.dT []))) : tDNewT σ H Q := h
theorem rd_bm0 {K : Frg} {T : String} {r : V → List V → Hp → VK → Prop} {to : TE} {σ : L2.St} {H : Hp} {Q : VK} (h : to σ H fun x H1 => tyV K T x H1 ∧ r x [] H1 Q) : tBM0 K T r to σ H Q := h
theorem rd_truthL {ta : TE} {σ : L2.St} {H : Hp} {B : Bool → Hp → Prop} (h : ta σ H fun x H' => ∃ k, TruV K x H' k ∧ B k H') : tTruth K ta σ H B := h
theorem rd_mkV {C : Addr} {sp : Sp} {dvs : List V} {E : L2.St → XK} {ta : TE} {t : TA} {σ : L2.St} {H : Hp} {Q : VK} (h : ta σ H fun y H1 => y = .ref C ∧ tMakeS C sp dvs E t σ H1 Q) : tMakeV C sp dvs E ta t σ H Q := h
theorem rd_cms {C : Addr} {sp : Sp} {E : L2.St → XK} {ta : TE} {t : TA} {σ : L2.St} {H : Hp} {Q : VK} (h : ta σ H fun x H1 => x = .ref C ∧ t σ H1 fun vs H2 => sp (.ref C :: vs) H2 Q (E σ)) : tCMS C sp E ta t σ H Q := h
local macro_rules | `(tactic| walk_at "rd") => `(tactic| first
  | (with_reducible refine rd_dget ?_) | (with_reducible refine rd_dget2 ?_) | (with_reducible refine rd_din ?_) | (with_reducible refine rd_dnin ?_) | (with_reducible refine rd_dput ?_) | (with_reducible refine rd_dsetd ?_) | (with_reducible refine rd_dnewK ?_) | (with_reducible refine rd_dnewT ?_)
  | (with_reducible refine rd_bm0 ?_) | (with_reducible refine rd_truthL ?_) | (with_reducible refine rd_mkV ?_) | (with_reducible refine rd_cms ?_))
/-- only what stands in fp is changed; what stands in fp' was in it or is new -/
structure Frm (fp : List Addr) (H H' : Hp) (fp' : List Addr) : Prop where
  keep : ∀ b o, b ∉ fp → H b = some o → H' b = some o
  from_ : ∀ b ∈ fp', b ∈ fp ∨ H b = none
theorem Frm.refl {fp : List Addr} {H : Hp} : Frm fp H H fp := ⟨fun _ _ _ e => e, fun _ h => .inl h⟩
theorem Frm.trans {fp f1 f2 : List Addr} {H H1 H2 : Hp} (a : Frm fp H H1 f1) (b : Frm f1 H1 H2 f2) : Frm fp H H2 f2 := by
  refine ⟨fun c o n e => b.keep c o (fun m => ?_) (a.keep c o n e), fun c m => ?_⟩
  · rcases a.from_ c m with z | z
    · exact n z
    · rw [e] at z; cases z
  · rcases b.from_ c m with z | z
    · exact a.from_ c z
    · by_cases n : c ∈ fp
      · exact .inl n
      · refine .inr ?_
        cases e : H c with
        | none => rfl
        | some o => rw [a.keep c o n e] at z; cases z
theorem Frm.same {fp : List Addr} {H H1 : Hp} (s : Same H H1) : Frm fp H H1 fp := ⟨fun b o _ e => s b o e, fun _ h => .inl h⟩
/-! dicts of lists of ints: the key, the list's place, its items -/
abbrev DLE := Int × Addr × List Int
def gr : List DLE → Int → List Int
  | [], _ => []
  | e :: r, i => if e.1 = i then e.2.2 else gr r i
def dlK (ks : List DLE) : List (Key × V) := ks.map fun e => (.inl e.1, .ref e.2.1)
def dlA (ks : List DLE) : List Addr := ks.map fun e => e.2.1
def dlTot (ks : List DLE) : Nat := (ks.map fun e => e.2.2.length).sum
structure DL (H : Hp) (d : Addr) (ks : List DLE) : Prop where
  dk : H d = some (.dK (dlK ks))
  ls : ∀ e ∈ ks, H e.2.1 = some (.lst (e.2.2.map V.int))
  kd : (ks.map fun e => e.1).Nodup
  ad : (dlA ks).Nodup
theorem DL.keep {H H' : Hp} {d : Addr} {ks : List DLE} (h : DL H d ks) (k : ∀ b o, b ∈ d :: dlA ks → H b = some o → H' b = some o) : DL H' d ks :=
  ⟨k _ _ List.mem_cons_self h.dk, fun e he => k _ _ (List.mem_cons_of_mem _ (List.mem_map.mpr ⟨e, he, rfl⟩)) (h.ls e he), h.kd, h.ad⟩
theorem DL.same {H H' : Hp} {d : Addr} {ks : List DLE} (h : DL H d ks) (s : Same H H') : DL H' d ks := h.keep fun b o _ e => s b o e
theorem DL.there {H : Hp} {d : Addr} {ks : List DLE} (h : DL H d ks) : ∀ b ∈ d :: dlA ks, ∃ o, H b = some o := fun b hb => by
  rcases List.mem_cons.mp hb with e | e
  · rw [e]; exact ⟨_, h.dk⟩
  · obtain ⟨x, hx, rfl⟩ := List.mem_map.mp e
    exact ⟨_, h.ls x hx⟩
theorem DL.ne {H : Hp} {d : Addr} {ks : List DLE} (h : DL H d ks) : d ∉ dlA ks := fun m => by
  obtain ⟨x, hx, e⟩ := List.mem_map.mp m
  have q := h.ls x hx
  rw [show x.2.1 = d from e, h.dk] at q
  cases q
theorem DL.new {H : Hp} {p : Addr} : DL (upd H p (.dK [])) p [] := ⟨upd_same, fun _ h => (nomatch h), List.Pairwise.nil, List.Pairwise.nil⟩
/-- what the dict gives at a key -/
theorem dl_val : ∀ (ks : List DLE) (i : Int), (valV (dlK ks) (.inl i) = none ∧ gr ks i = [] ∧ ∀ e ∈ ks, e.1 ≠ i) ∨ ∃ a l, (i, a, l) ∈ ks ∧ valV (dlK ks) (.inl i) = some (.ref a) ∧ gr ks i = l
  | [], _ => .inl ⟨rfl, rfl, fun _ h => (nomatch h)⟩
  | e :: r, i => by
    by_cases h : e.1 = i
    · refine .inr ⟨e.2.1, e.2.2, ?_, ?_, ?_⟩
      · rw [← h]; exact List.mem_cons_self
      · exact valV_pos (p := ((.inl e.1 : Key), V.ref e.2.1)) (by rw [h])
      · unfold gr; rw [if_pos h]
    · have hv : valV (dlK (e :: r)) (.inl i) = valV (dlK r) (.inl i) := valV_neg (p := ((.inl e.1 : Key), V.ref e.2.1)) (fun q => h (Sum.inl.inj q))
      have hg : gr (e :: r) i = gr r i := by rw [gr, if_neg h]
      rw [hv, hg]
      rcases dl_val r i with ⟨h1, h2, h3⟩ | ⟨a, l, h1, h2, h3⟩
      · refine .inl ⟨h1, h2, fun x hx => ?_⟩
        rcases List.mem_cons.mp hx with q | q
        · rw [q]; exact h
        · exact h3 x q
      · exact .inr ⟨a, l, List.mem_cons_of_mem _ h1, h2, h3⟩
theorem gr_mid : ∀ {pre post : List DLE} {s : Int} {a : Addr} {l : List Int} {x : Int}, (∀ e ∈ pre, e.1 ≠ s) → gr (pre ++ (s, a, l) :: post) x = if x = s then l else gr (pre ++ post) x
  | [], post, s, a, l, x, _ => by
    rw [List.nil_append, List.nil_append, gr]
    by_cases h : s = x
    · rw [if_pos h, if_pos h.symm]
    · rw [if_neg h, if_neg (fun q => h q.symm)]
  | e :: pre, post, s, a, l, x, h => by
    rw [List.cons_append, List.cons_append, gr, gr]
    by_cases q : e.1 = x
    · rw [if_pos q, if_pos q, if_neg (fun z => h e List.mem_cons_self (q.trans z))]
    · rw [if_neg q, if_neg q]
      exact gr_mid fun y hy => h y (List.mem_cons_of_mem _ hy)
theorem dlTot_len {ks : List DLE} {e : DLE} (h : e ∈ ks) : e.2.2.length ≤ dlTot ks := by
  induction ks with
  | nil => cases h
  | cons x r ih =>
    unfold dlTot at ih ⊢
    rw [List.map_cons, List.sum_cons]
    rcases List.mem_cons.mp h with q | q
    · rw [q]; omega
    · have := ih q; omega
theorem dlTot_app (a b : List DLE) : dlTot (a ++ b) = dlTot a + dlTot b := by simp [dlTot]
theorem dlTot_one (e : DLE) (r : List DLE) : dlTot (e :: r) = e.2.2.length + dlTot r := by simp [dlTot]
/-- d.setdefault(s, []).append(g) -/
theorem dl_push {td ty tg : TE} {d : Addr} {ks : List DLE} {s g : Int} {D : Ends} {σ : L2.St} {H : Hp} (h1 : ∀ H1 Q, Q (.ref d) H1 → td σ H1 Q) (h2 : ∀ H1 Q, Q (.int s) H1 → ty σ H1 Q) (h3 : ∀ H1 Q, Q (.int g) H1 → tg σ H1 Q)
    (hD : DL H d ks) (hn : ks.length + dlTot ks < 1000000)
    (h : ∀ H' ks', DL H' d ks' → (∀ x, gr ks' x = if x = s then gr ks x ++ [g] else gr ks x) → Frm (d :: dlA ks) H H' (d :: dlA ks') → ks'.length ≤ ks.length + 1 → dlTot ks' = dlTot ks + 1 → D.nx σ H') :
    tDrop (tBM K "list" rAppend (tDSetd td ty (tLst tNil)) (tCons tg tNil)) D σ H := by
  refine rd_drop (rd_bm (rd_dsetd (h1 _ _ ?_)))
  refine ⟨d, rfl, .inl ⟨_, .inl hD.dk⟩, h2 _ _ (rd_lst (rd_nil ⟨Nat.zero_le _, fun p hp => ?_⟩))⟩
  have dp : d ≠ p := ne_of_none hD.dk hp
  have keep0 : ∀ b o, H b = some o → upd H p (.lst []) b = some o := fun b o e => by rw [upd_ne (ne_of_none e hp)]; exact e
  refine ⟨dlK ks, .inl s, keep0 _ _ hD.dk, rfl, by unfold dlK; rw [List.length_map, sizeLine_eq]; omega, fun v hv => ?_, fun hv => ?_⟩
  · rcases dl_val ks s with ⟨q, _⟩ | ⟨a, l, hm, q, hg⟩
    · rw [q] at hv; cases hv
    · rw [q] at hv
      cases hv
      obtain ⟨pre, post, e⟩ := List.append_of_mem hm
      have hl := hD.ls _ hm
      have ap : a ≠ p := ne_of_none hl hp
      refine ⟨tyL (keep0 _ _ hl), rd_cons (h3 _ _ (rd_nil ?_))⟩
      have lt : l.length ≤ dlTot ks := dlTot_len hm
      have hma : a ∈ dlA ks := List.mem_map.mpr ⟨_, hm, rfl⟩
      refine append_go (keep0 _ _ hl) (by rw [List.length_map]; show l.length < _; omega) ?_
      have kd := hD.kd
      have ad := hD.ad
      rw [e, List.map_append, List.map_cons] at kd
      unfold dlA at ad
      rw [e, List.map_append, List.map_cons] at ad
      obtain ⟨kd1, kd2, kd3⟩ := List.nodup_append.mp kd
      obtain ⟨ad1, ad2, ad3⟩ := List.nodup_append.mp ad
      have npre : ∀ x ∈ pre, x.1 ≠ s := fun x hx => kd3 _ (List.mem_map.mpr ⟨x, hx, rfl⟩) _ List.mem_cons_self
      have apre : ∀ x ∈ pre, x.2.1 ≠ a := fun x hx => ad3 _ (List.mem_map.mpr ⟨x, hx, rfl⟩) _ List.mem_cons_self
      have apost : ∀ x ∈ post, x.2.1 ≠ a := fun x hx z => (List.nodup_cons.mp ad2).1 (List.mem_map.mpr ⟨x, hx, z⟩)
      have eK : dlK (pre ++ (s, a, l ++ [g]) :: post) = dlK ks := by rw [e]; simp [dlK]
      have eA : dlA (pre ++ (s, a, l ++ [g]) :: post) = dlA ks := by rw [e]; simp [dlA]
      have old : ∀ x ∈ ks, x.2.1 ≠ a → upd (upd H p (.lst [])) a (.lst (l.map V.int ++ [V.int g])) x.2.1 = some (.lst (x.2.2.map V.int)) := fun x hx n => by
        rw [upd_ne n]
        exact keep0 _ _ (hD.ls x hx)
      refine h _ (pre ++ (s, a, l ++ [g]) :: post) ⟨?_, fun x hx => ?_, ?_, ?_⟩ (fun x => ?_) ⟨fun b o n q => ?_, fun b hb => .inl (by rw [eA] at hb; exact hb)⟩ ?_ ?_
      · rw [eK, upd_ne (fun z => hD.ne (by rw [z]; exact hma))]
        exact keep0 _ _ hD.dk
      · rcases List.mem_append.mp hx with z | z
        · exact old x (by rw [e]; exact List.mem_append_left _ z) (apre x z)
        · rcases List.mem_cons.mp z with z | z
          · subst z
            show upd _ a _ a = _
            rw [upd_same, List.map_append]
            rfl
          · exact old x (by rw [e]; exact List.mem_append_right _ (List.mem_cons_of_mem _ z)) (apost x z)
      · rw [List.map_append, List.map_cons]
        exact kd
      · rw [eA]; exact hD.ad
      · rw [gr_mid npre, e, gr_mid npre]
        by_cases z : x = s
        · rw [if_pos z, if_pos z, if_pos z]
        · rw [if_neg z, if_neg z, if_neg z]
      · rw [upd_ne (fun z => n (List.mem_cons_of_mem _ (by rw [z]; exact hma)))]
        exact keep0 _ _ q
      · rw [e]; simp
      · rw [e, dlTot_app, dlTot_app, dlTot_one, dlTot_one, List.length_append]
        simp
        omega
  · rcases dl_val ks s with ⟨q, hg, hne⟩ | ⟨a, l, hm, q, hg⟩
    · have ed : putK (dlK ks) (.inl s) (.ref p) = dlK (ks ++ [(s, p, [])]) := by rw [putK_new _ hv]; simp [dlK]
      have pA : p ∉ dlA ks := fun m => by
        obtain ⟨x, hx, z⟩ := List.mem_map.mp m
        have := hD.ls x hx
        rw [show x.2.1 = p from z, hp] at this
        cases this
      have pd : p ≠ d := Ne.symm dp
      have eP : upd (upd H p (.lst [])) d (.dK (putK (dlK ks) (.inl s) (.ref p))) p = some (.lst []) := by rw [upd_ne pd, upd_same]
      refine ⟨tyL eP, rd_cons (h3 _ _ (rd_nil ?_))⟩
      refine append_go eP (by decide) ?_
      refine h _ (ks ++ [(s, p, [g])]) ⟨?_, fun x hx => ?_, ?_, ?_⟩ (fun x => ?_) ⟨fun b o n q => ?_, fun b hb => ?_⟩ ?_ ?_
      · rw [upd_ne dp, upd_same, ed]
        simp [dlK]
      · rcases List.mem_append.mp hx with z | z
        · have n1 : x.2.1 ≠ p := fun w => pA (w ▸ List.mem_map.mpr ⟨x, z, rfl⟩)
          have n2 : x.2.1 ≠ d := fun w => hD.ne (w ▸ List.mem_map.mpr ⟨x, z, rfl⟩)
          rw [upd_ne n1, upd_ne n2, upd_ne n1]
          exact hD.ls x z
        · rw [List.mem_singleton.mp z]
          show upd _ p _ p = _
          rw [upd_same]
          rfl
      · rw [List.map_append]
        refine List.nodup_append.mpr ⟨hD.kd, by simp, fun y hy z hz w => ?_⟩
        obtain ⟨x, hx, rfl⟩ := List.mem_map.mp hy
        rw [List.mem_singleton.mp hz] at w
        exact hne x hx w
      · unfold dlA
        rw [List.map_append]
        refine List.nodup_append.mpr ⟨hD.ad, by simp, fun y hy z hz w => ?_⟩
        rw [List.mem_singleton.mp hz] at w
        exact pA (by rw [← show y = p from w]; exact hy)
      · have := gr_mid (pre := ks) (post := []) (s := s) (a := p) (l := [g]) (x := x) hne
        rw [List.append_nil] at this
        rw [this]
        by_cases z : x = s
        · rw [if_pos z, if_pos z, z, hg]; rfl
        · rw [if_neg z, if_neg z]
      · have nd : b ≠ d := fun z => n (z ▸ List.mem_cons_self)
        rw [upd_ne (ne_of_none q hp), upd_ne nd]
        exact keep0 _ _ q
      · rcases List.mem_cons.mp hb with z | z
        · exact .inl (z ▸ List.mem_cons_self)
        · unfold dlA at z
          rw [List.map_append] at z
          rcases List.mem_append.mp z with z | z
          · exact .inl (List.mem_cons_of_mem _ z)
          · exact .inr (by rw [List.mem_singleton.mp z]; exact hp)
      · simp
      · rw [dlTot_app, dlTot_one]; simp [dlTot]
    · rw [q] at hv; cases hv
/-! the states that are reached -/
inductive Rch (f : Int → List Int) (S : List Int) : Int → Prop
  | s {x : Int} : x ∈ S → Rch f S x
  | e {x y : Int} : Rch f S x → y ∈ f x → Rch f S y
/-- what may still be put into the queue -/
def phi (ks : List DLE) (fs : List Int) : Nat := ((ks.filter fun e => decide (e.1 ∉ fs)).map fun e => e.2.2.length).sum
theorem phi_le : ∀ (ks : List DLE) (fs : List Int), phi ks fs ≤ dlTot ks
  | [], _ => Nat.le_refl _
  | e :: r, fs => by
    have ih := phi_le r fs
    unfold phi at ih ⊢
    rw [dlTot_one]
    by_cases h : e.1 ∉ fs
    · rw [List.filter_cons_of_pos (by simp [h]), List.map_cons, List.sum_cons]; omega
    · rw [List.filter_cons_of_neg (by simpa using h)]; omega
theorem phi_other : ∀ (ks : List DLE) (fs : List Int) (i : Int), (∀ e ∈ ks, e.1 ≠ i) → phi ks (fs ++ [i]) = phi ks fs
  | [], _, _, _ => rfl
  | e :: r, fs, i, h => by
    have ih := phi_other r fs i fun x hx => h x (List.mem_cons_of_mem _ hx)
    have he := h e List.mem_cons_self
    unfold phi at ih ⊢
    by_cases q : e.1 ∈ fs
    · rw [List.filter_cons_of_neg (by simp [q]), List.filter_cons_of_neg (by simp [q]), ih]
    · rw [List.filter_cons_of_pos (by simp [q, he]), List.filter_cons_of_pos (by simp [q]), List.map_cons, List.map_cons, List.sum_cons, List.sum_cons, ih]
theorem phi_add : ∀ (ks : List DLE) (fs : List Int) (i : Int), (ks.map fun e => e.1).Nodup → i ∉ fs → phi ks (fs ++ [i]) + (gr ks i).length = phi ks fs
  | [], _, _, _, _ => rfl
  | e :: r, fs, i, nd, hi => by
    obtain ⟨n1, n2⟩ := List.nodup_cons.mp nd
    by_cases h : e.1 = i
    · have ho := phi_other r fs i fun x hx q => n1 (List.mem_map.mpr ⟨x, hx, q.trans h.symm⟩)
      unfold phi at ho ⊢
      rw [gr, if_pos h, List.filter_cons_of_neg (by simp [h]), List.filter_cons_of_pos (by simp [h, hi]), List.map_cons, List.sum_cons, ho]
      omega
    · have ih := phi_add r fs i n2 hi
      unfold phi at ih ⊢
      rw [gr, if_neg h]
      by_cases q : e.1 ∈ fs
      · rw [List.filter_cons_of_neg (by simp [q]), List.filter_cons_of_neg (by simp [q])]; exact ih
      · rw [List.filter_cons_of_pos (by simp [q, h]), List.filter_cons_of_pos (by simp [q]), List.map_cons, List.map_cons, List.sum_cons, List.sum_cons]; omega
/-- a dict of True -/
def trK (fs : List Int) : List (Key × V) := fs.map fun i => (.inl i, .bl true)
theorem tr_val : ∀ (fs : List Int) (i : Int), (valV (trK fs) (.inl i)).isSome = decide (i ∈ fs)
  | [], _ => by simp [trK, valV]
  | j :: r, i => by
    by_cases h : j = i
    · rw [show valV (trK (j :: r)) (.inl i) = some (.bl true) from valV_pos (p := ((.inl j : Key), V.bl true)) (by rw [h])]
      simp [h]
    · rw [show valV (trK (j :: r)) (.inl i) = valV (trK r) (.inl i) from valV_neg (p := ((.inl j : Key), V.bl true)) (fun q => h (Sum.inl.inj q)), tr_val r i]
      simp [Ne.symm h]
theorem tr_put {fs : List Int} {i : Int} (h : i ∉ fs) : putK (trK fs) (.inl i) (.bl true) = trK (fs ++ [i]) := by
  have e : valV (trK fs) (.inl i) = none := by
    have := tr_val fs i
    rw [decide_eq_false h] at this
    cases q : valV (trK fs) (.inl i) with
    | none => rfl
    | some x => rw [q] at this; cases this
  rw [putK_new _ e]
  simp [trK]
theorem ints_last {qs : List Int} {y : Int} (h : qs = qs.dropLast ++ [y]) : (qs.map V.int)[(qs.map V.int).length - 1]? = some (.int y) := by
  rw [h]
  simp
/-- reached(starts, arrows) -/
theorem reached_ok {a d : Addr} {ss : List Int} {ks : List DLE} {H : Hp} {Q : VK} {E : XK} (hS : SqL K H a (ss.map V.int)) (hD : DL H d ks) (hn : ss.length + dlTot ks ≤ 1000000)
    (h : ∀ p H' (fs : List Int), Same H H' → H p = none → H' p = some (.dK (trK fs)) → fs.Nodup → (∀ i, i ∈ fs ↔ Rch (gr ks) ss i) → Q (.ref p) H') : sp_reached K [.ref a, .ref d] H Q E := by
  refine ⟨rfl, ?_⟩
  unfold t_reached
  walk_at "sq"
  walk_at "st"
  intro F hF
  walk_at "st"
  walk_at "sq"
  walk_at "st"
  have sF := Same.new (o := .dK []) hF
  refine ⟨a, _, rfl, .inl (sF.seq hS), fun L hL => ?_⟩
  walk_at "st"
  have sL := Same.new (o := .lst (ss.map V.int)) hL
  have FL : F ≠ L := ne_of_none (show upd H F (.dK []) F = some (.dK []) from upd_same) hL
  have HL : H L = none := by rw [upd_ne (Ne.symm FL)] at hL; exact hL
  walk_at "sq"
  refine ⟨fun m σ H2 => ∃ (fs qs : List Int) (v4 v5 : Option V), m = qs.length + phi ks fs ∧ σ = [some (.ref a), some (.ref d), some (.ref F), some (.ref L), v4, v5] ∧ (∀ b o, H b = some o → H2 b = some o) ∧ H2 F = some (.dK (trK fs)) ∧ H2 L = some (.lst (qs.map V.int)) ∧ fs.Nodup ∧ m ≤ 1000000 ∧ fs.length ≤ 1000000 - m ∧
    (∀ i ∈ fs, Rch (gr ks) ss i) ∧ (∀ i ∈ qs, Rch (gr ks) ss i) ∧ (∀ i ∈ ss, i ∈ fs ∨ i ∈ qs) ∧ (∀ i ∈ fs, ∀ y ∈ gr ks i, y ∈ fs ∨ y ∈ qs), ⟨_, [], ss, none, none, rfl, rfl, fun b o e => sL _ _ (sF _ _ e), ?_, upd_same, List.Pairwise.nil, ?_, ?_, fun _ h => (nomatch h), fun i hi => .s hi, fun i hi => .inr hi, fun _ h => (nomatch h)⟩, ?_⟩
  · rw [upd_ne FL, upd_same]; rfl
  · have := phi_le ks []; omega
  · simp
  rintro m σ H2 ⟨fs, qs, v4, v5, rfl, rfl, k2, eF, eL, nd, mb, fb, r1, r2, c1, c2⟩
  walk_at "st"
  refine ⟨_, .inl ⟨_, .of eL, rfl⟩, ?_⟩
  cases qs with
  | nil =>
    refine rd_iteF ?_
    walk_at "st"
    refine h F H2 fs k2 hF eF nd fun i => ⟨r1 i, fun z => ?_⟩
    induction z with
    | s hx => exact (c1 _ hx).elim id fun q => (nomatch q)
    | e hx hy ih => exact (c2 _ ih _ hy).elim id fun q => (nomatch q)
  | cons q0 q1 =>
    obtain ⟨y, ey⟩ : ∃ y, (q0 :: q1) = (q0 :: q1).dropLast ++ [y] := ⟨(q0 :: q1).getLast (by simp), (List.dropLast_concat_getLast (by simp)).symm⟩
    generalize q0 :: q1 = qs at *
    have qne : qs ≠ [] := fun z => by rw [z] at ey; simp at ey
    have elen : qs.length = qs.dropLast.length + 1 := by
      have := congrArg List.length ey
      rw [List.length_append] at this
      exact this
    have ymem : y ∈ qs := by rw [ey]; simp
    refine rd_iteB (by simp [qne]) ?_
    have dsub : ∀ i ∈ qs.dropLast, i ∈ qs := fun i hi => List.dropLast_subset _ hi
    have split : ∀ i ∈ qs, i ∈ qs.dropLast ∨ i = y := fun i hi => by
      rw [ey] at hi
      rcases List.mem_append.mp hi with z | z
      · exact .inl z
      · exact .inr (List.mem_singleton.mp z)
    have mapd : (qs.map V.int).dropLast = qs.dropLast.map V.int := by rw [List.map_dropLast]
    have base : ∀ b o, H b = some o → upd H2 L (.lst ((qs.map V.int).dropLast)) b = some o := fun b o e => by rw [upd_ne (ne_of_none e HL)]; exact k2 _ _ e
    have eF1 : upd H2 L (.lst ((qs.map V.int).dropLast)) F = some (.dK (trK fs)) := by rw [upd_ne FL]; exact eF
    refine ⟨fun σ' H' => ∃ m', m' < qs.length + phi ks fs ∧ (fun m σ H2 => ∃ (fs qs : List Int) (v4 v5 : Option V), m = qs.length + phi ks fs ∧ σ = [some (.ref a), some (.ref d), some (.ref F), some (.ref L), v4, v5] ∧ (∀ b o, H b = some o → H2 b = some o) ∧ H2 F = some (.dK (trK fs)) ∧ H2 L = some (.lst (qs.map V.int)) ∧ fs.Nodup ∧ m ≤ 1000000 ∧ fs.length ≤ 1000000 - m ∧
      (∀ i ∈ fs, Rch (gr ks) ss i) ∧ (∀ i ∈ qs, Rch (gr ks) ss i) ∧ (∀ i ∈ ss, i ∈ fs ∨ i ∈ qs) ∧ (∀ i ∈ fs, ∀ y ∈ gr ks i, y ∈ fs ∨ y ∈ qs)) m' σ' H', fun σ' H' z => z, ?_⟩
    walk_at "sq"
    walk_at "st"
    refine ⟨tyL eL, L, _, .int y, rfl, rfl, eL, ints_last ey, ?_⟩
    walk_at "st"
    refine ⟨F, _, rfl, DGet.k (k := .inl y) eF1, ?_⟩
    refine ⟨_, rfl, ?_⟩
    rw [tr_val]
    refine rd_iteN (fun hy => ?_) (fun hy => ?_)
    · walk_at "sq"
      walk_at "st"
      refine ⟨F, _, rfl, DPut.k (k := .inl y) eF1 (by unfold trK; rw [List.length_map, sizeLine_eq]; omega), ?_⟩
      rw [tr_put hy]
      walk_at "st"
      have e2L : upd (upd H2 L (.lst ((qs.map V.int).dropLast))) F (.dK (trK (fs ++ [y]))) L = some (.lst (qs.dropLast.map V.int)) := by rw [upd_ne (Ne.symm FL), upd_same, mapd]
      have e2F : upd (upd H2 L (.lst ((qs.map V.int).dropLast))) F (.dK (trK (fs ++ [y]))) F = some (.dK (trK (fs ++ [y]))) := upd_same
      have base2 : ∀ b o, H b = some o → upd (upd H2 L (.lst ((qs.map V.int).dropLast))) F (.dK (trK (fs ++ [y]))) b = some o := fun b o e => by rw [upd_ne (ne_of_none e hF)]; exact base b o e
      generalize upd (upd H2 L (.lst ((qs.map V.int).dropLast))) F (.dK (trK (fs ++ [y]))) = H3 at e2L e2F base2 ⊢
      refine ⟨tyL e2L, ?_⟩
      walk_at "st"
      have D3 : DL H3 d ks := hD.keep fun b o _ e => base2 b o e
      refine ⟨d, rfl, .inl ⟨_, .inl D3.dk⟩, ?_⟩
      walk_at "st"
      intro p hp
      have sp := Same.new (o := .lst []) hp
      have pv : ∃ (q : Addr), ((valV (dlK ks) (.inl y)).getD (.ref p)) = .ref q ∧ upd H3 p (.lst []) q = some (.lst ((gr ks y).map V.int)) := by
        rcases dl_val ks y with ⟨z1, z2, _⟩ | ⟨b, l, z0, z1, z2⟩
        · rw [z1, z2]; exact ⟨p, rfl, upd_same⟩
        · rw [z1, z2]; exact ⟨b, rfl, sp _ _ (D3.ls _ z0)⟩
      refine ⟨_, DGet.k (k := .inl y) (sp _ _ D3.dk), ?_⟩
      obtain ⟨q, eq, eQ⟩ := pv
      rw [eq]
      refine ⟨q, rfl, ⟨_, .of eQ⟩, fun N hN => ?_⟩
      have sN := Same.new (o := .lst []) hN
      have sps := sp.trans sN
      refine lc_it (walk_list (K := K) (a := q) (xs := (gr ks y).map V.int)) (fun j H4 => Same (upd H3 p (.lst [])) H4 ∧ H4 N = some (.lst ((((gr ks y).take j).filter fun i => decide (i ∉ fs ++ [y])).map V.int))) ⟨sN, by rw [upd_same]; rfl⟩ (fun j H4 _ z => .of (z.1 _ _ eQ)) ?_ ?_
      · rintro j x H4 H5 hj ⟨s4, eN⟩ ⟨rfl, hx⟩
        obtain ⟨z, hz, rfl⟩ := getI hx
        have lt := (List.getElem?_eq_some_iff.mp hz).1
        have etk : (gr ks y).take (j + 1) = (gr ks y).take j ++ [z] := by rw [List.take_succ_eq_append_getElem lt, (List.getElem?_eq_some_iff.mp hz).2]
        walk_at "st"
        refine ⟨rfl, ?_⟩
        walk_at "st"
        refine ⟨F, _, rfl, DGet.k (k := .inl z) (s4 _ _ (sp _ _ e2F)), _, rfl, ?_⟩
        rw [tr_val]
        refine rd_iteN (fun hz2 => ?_) (fun hz2 => ?_)
        · walk_at "st"
          refine ⟨_, eN, ?_, fun b o e => ?_, ?_⟩
          · rw [List.length_map, sizeLine_eq]
            have b1 := List.length_filter_le (fun i => decide (i ∉ fs ++ [y])) ((gr ks y).take j)
            have b2 := List.length_take_le j (gr ks y)
            have b3 : (gr ks y).length ≤ dlTot ks := by
              rcases dl_val ks y with ⟨_, z2, _⟩ | ⟨b, l, z0, _, z2⟩
              · rw [z2]; exact Nat.zero_le _
              · rw [z2]; exact dlTot_len z0
            omega
          · rw [upd_ne (ne_of_none e hN)]
            exact s4 _ _ e
          · rw [upd_same, etk, List.filter_append, List.map_append]
            have e1 : ([z].filter fun i => decide (i ∉ fs ++ [y])) = [z] := by simp only [List.filter_cons, List.filter_nil, decide_eq_true hz2, if_true]
            rw [e1]
            rfl
        · refine ⟨s4, ?_⟩
          have e1 : ([z].filter fun i => decide (i ∉ fs ++ [y])) = [] := by rw [List.filter_cons_of_neg (by rw [decide_eq_false (fun w : z ∉ fs ++ [y] => w hz2)]; exact Bool.false_ne_true)]; rfl
          rw [eN, etk, List.filter_append, e1, List.append_nil]
      · rintro H4 ⟨s4, eN⟩
        rw [List.length_map, List.take_length] at eN
        have s34 := sp.trans s4
        have pa := phi_add ks fs y hD.kd hy
        have fl := List.length_filter_le (fun i => decide (i ∉ fs ++ [y])) (gr ks y)
        have nL : ∀ b o, H b = some o → b ≠ L := fun b o e => ne_of_none e HL
        walk_at "st"
        refine ⟨L, N, _, _, rfl, rfl, s34 _ _ e2L, eN, by rw [List.length_map, List.length_map, sizeLine_eq]; omega, ?_⟩
        refine ⟨_, ?_, fs ++ [y], qs.dropLast ++ (gr ks y).filter (fun i => decide (i ∉ fs ++ [y])), _, _, rfl, rfl, fun b o e => ?_, ?_, ?_, ?_, ?_, ?_, fun i hi => ?_, fun i hi => ?_, fun i hi => ?_, fun i hi w hw => ?_⟩
        · rw [List.length_append]; omega
        · rw [upd_ne (nL b o e)]
          exact s34 _ _ (base2 b o e)
        · rw [upd_ne FL]
          exact s34 _ _ e2F
        · rw [upd_same, List.map_append]
        · refine List.nodup_append.mpr ⟨nd, by simp, fun u hu w hw e => ?_⟩
          rw [List.mem_singleton.mp hw] at e
          exact hy (e ▸ hu)
        · rw [List.length_append]; omega
        · simp only [List.length_append, List.length_singleton]; omega
        · rcases List.mem_append.mp hi with z | z
          · exact r1 i z
          · rw [List.mem_singleton.mp z]; exact r2 y ymem
        · rcases List.mem_append.mp hi with z | z
          · exact r2 i (dsub i z)
          · exact .e (r2 y ymem) (List.mem_filter.mp z).1
        · rcases c1 i hi with z | z
          · exact .inl (List.mem_append_left _ z)
          · rcases split i z with w | w
            · exact .inr (List.mem_append_left _ w)
            · exact .inl (by rw [w]; simp)
        · by_cases wf : w ∈ fs ++ [y]
          · exact .inl wf
          · rcases List.mem_append.mp hi with z | z
            · rcases c2 i z w hw with u | u
              · exact .inl (List.mem_append_left _ u)
              · rcases split w u with v | v
                · exact .inr (List.mem_append_left _ v)
                · exact absurd (by rw [v]; simp) wf
            · rw [List.mem_singleton.mp z] at hw
              exact .inr (List.mem_append_right _ (List.mem_filter.mpr ⟨hw, decide_eq_true wf⟩))
    · walk_at "st"
      refine ⟨_, ?_, fs, qs.dropLast, _, _, rfl, rfl, base, eF1, by rw [upd_same, mapd], nd, by omega, by omega, r1, fun i hi => r2 i (dsub i hi), fun i hi => ?_, fun i hi w hw => ?_⟩
      · omega
      · rcases c1 i hi with z | z
        · exact .inl z
        · rcases split i z with w | w
          · exact .inr w
          · exact .inl (by rw [w]; exact hy)
      · rcases c2 i hi w hw with z | z
        · exact .inl z
        · rcases split w z with u | u
          · exact .inr u
          · exact .inl (by rw [u]; exact hy)
/-! lots -/
abbrev Mv := Int × Str × Int
def tabK (tab : List Mv) : List (List Key × V) := tab.map fun m => ([.inl m.1, .inr m.2.1], .int m.2.2)
def mvKey (m : Mv) : Int × Str := (m.1, m.2.1)
/-- m at the end, unless its key is there -/
def insM (tab : List Mv) (m : Mv) : List Mv := if (∃ t ∈ tab, mvKey t = mvKey m) then tab else tab ++ [m]
/-- the table that comes of the moves -/
structure TabOf (ms tab : List Mv) : Prop where
  mem : ∀ m, m ∈ tab ↔ m ∈ ms
  nd : (tab.map mvKey).Nodup
theorem TabOf.nil : TabOf [] [] := ⟨fun _ => Iff.rfl, List.Pairwise.nil⟩
theorem TabOf.step {ms tab : List Mv} {m : Mv} (h : TabOf ms tab) (hd : ∀ t ∈ tab, mvKey t = mvKey m → t.2.2 = m.2.2) : TabOf (ms ++ [m]) (insM tab m) := by
  unfold insM
  split
  · rename_i c
    obtain ⟨t, ht, e⟩ := c
    have et : t = m := by
      have e2 := hd t ht e
      obtain ⟨a, b, c⟩ := t
      obtain ⟨a', b', c'⟩ := m
      cases e
      cases e2
      rfl
    refine ⟨fun x => ?_, h.nd⟩
    rw [List.mem_append, List.mem_singleton, h.mem x]
    exact ⟨.inl, fun z => z.elim id fun w => by rw [w, ← et]; exact (h.mem t).mp ht⟩
  · rename_i c
    refine ⟨fun x => ?_, ?_⟩
    · rw [List.mem_append, List.mem_append, h.mem x]
    · rw [List.map_append]
      refine List.nodup_append.mpr ⟨h.nd, by simp, fun a ha b hb e => ?_⟩
      obtain ⟨t, ht, rfl⟩ := List.mem_map.mp ha
      rw [List.map_cons, List.map_nil, List.mem_singleton] at hb
      exact c ⟨t, ht, e.trans hb⟩
structure LotAt (K : Frg) (H : Hp) (l T F : Addr) (n : Int) (tab : List Mv) (fin : List Int) : Prop where
  i : ∃ dx, H l = some (.ins (He.ga K "Lot") dx [("table", .ref T), ("many", .int n), ("finals", .ref F)])
  t : H T = some (.dT (tabK tab))
  f : H F = some (.lst (fin.map V.int))
theorem LotAt.same {H H' : Hp} {l T F : Addr} {n : Int} {tab : List Mv} {fin : List Int} (h : LotAt K H l T F n tab fin) (s : Same H H') : LotAt K H' l T F n tab fin :=
  ⟨let ⟨dx, e⟩ := h.i; ⟨dx, s _ _ e⟩, s _ _ h.t, s _ _ h.f⟩
theorem LotAt.keep {H H' : Hp} {d l T F : Addr} {n : Int} {tab : List Mv} {fin : List Int} (h : LotAt K H l T F n tab fin) (k : Keep d H H') (n1 : l ≠ d) (n2 : T ≠ d) (n3 : F ≠ d) : LotAt K H' l T F n tab fin :=
  ⟨let ⟨dx, e⟩ := h.i; ⟨dx, k _ _ n1 e⟩, k _ _ n2 h.t, k _ _ n3 h.f⟩
/-- the sorted list of ints, each once -/
def kInt : Key → Int
  | .inl i => i
  | .inr _ => 0
def finOf (L : List Key) : List Int := (L.mergeSort (PySem.W.dataLe false SetX.kD)).map kInt
theorem fin_ok {last : List Int} {L : List Key} (g : SetX.Got SetX.kD (last.map Sum.inl) L) : (L.mergeSort (PySem.W.dataLe false SetX.kD)).map kV = (finOf L).map V.int ∧ (∀ x, x ∈ finOf L ↔ x ∈ last) ∧ (finOf L).Pairwise (· < ·) := by
  have pm : (L.mergeSort (PySem.W.dataLe false SetX.kD)).Perm L := List.mergeSort_perm _ _
  have all : ∀ k ∈ L.mergeSort (PySem.W.dataLe false SetX.kD), ∃ i : Int, k = .inl i ∧ i ∈ last := fun k hk => by
    obtain ⟨i, hi, e⟩ := List.mem_map.mp (g.sub k (pm.mem_iff.mp hk))
    exact ⟨i, e.symm, hi⟩
  have e1 : (L.mergeSort (PySem.W.dataLe false SetX.kD)).map kV = (finOf L).map V.int := by
    unfold finOf
    rw [List.map_map]
    apply List.map_congr_left
    intro k hk
    obtain ⟨i, rfl, _⟩ := all k hk
    rfl
  refine ⟨e1, fun x => ⟨fun hx => ?_, fun hx => ?_⟩, ?_⟩
  · obtain ⟨k, hk, e⟩ := List.mem_map.mp hx
    obtain ⟨i, rfl, hi⟩ := all k hk
    rw [← e]; exact hi
  · obtain ⟨k, hk, e⟩ := g.all (.inl x) (List.mem_map.mpr ⟨x, hx, rfl⟩)
    have := SetX.kD_inj e
    subst this
    exact List.mem_map.mpr ⟨_, pm.mem_iff.mpr hk, rfl⟩
  · have tot : PySem.W.TotalLe (PySem.W.dataLe false SetX.kD) := PySem.W.sortLe_total _ _ _
    have pw := PySem.W.sort_pairwise tot L
    have ndk : (L.mergeSort (PySem.W.dataLe false SetX.kD)).Nodup := by
      refine pm.nodup_iff.mpr ?_
      have := g.nd
      exact List.Pairwise.of_map SetX.kD (fun a b hne e => hne (by rw [e])) this
    unfold finOf
    rw [List.pairwise_map]
    have both := List.pairwise_and_iff.mpr ⟨pw, ndk⟩
    refine List.Pairwise.imp_of_mem (fun {a b} ha hb q => ?_) both
    obtain ⟨i, rfl, _⟩ := all a ha
    obtain ⟨j, rfl, _⟩ := all b hb
    have q1 : PySem.W.dataLe false SetX.kD (.inl i) (.inl j) = true := q.1
    have q2 : (Sum.inl i : Key) ≠ .inl j := q.2
    have e2 : PySem.W.dataLe false SetX.kD (.inl i) (.inl j) = !PySem.W.dataLt (.int j) (.int i) := rfl
    rw [e2, PySem.W.dataLt_int, PySem.W.not_lt_int] at q1
    have := of_decide_eq_true q1
    show i < j
    have : i ≠ j := fun z => q2 (by rw [z])
    omega
/-- tuples that say moves -/
structure MvsAt (H : Hp) (us : List Addr) (ms : List Mv) : Prop where
  l : us.length = ms.length
  g : ∀ (i : Nat) (u : Addr) (m : Mv), us[i]? = some u → ms[i]? = some m → H u = some (.tup [.int m.1, .str m.2.1, .int m.2.2])
theorem MvsAt.keep {H H' : Hp} {us : List Addr} {ms : List Mv} (h : MvsAt H us ms) (k : ∀ u xs, H u = some (.tup xs) → H' u = some (.tup xs)) : MvsAt H' us ms := ⟨h.l, fun i u m a b => k _ _ (h.g i u m a b)⟩
theorem DL.out {H : Hp} {d b : Addr} {ks : List DLE} {o : HO} (h : DL H d ks) (e : H b = some o) (n1 : ∀ xs, o ≠ .lst xs) (n2 : ∀ kv, o ≠ .dK kv) : b ∉ d :: dlA ks := fun m => by
  rcases List.mem_cons.mp m with z | z
  · rw [z, h.dk] at e; exact n2 _ (Option.some.inj e).symm
  · obtain ⟨x, hx, w⟩ := List.mem_map.mp z
    have q := h.ls x hx
    rw [show x.2.1 = b from w, e] at q
    exact n1 _ (Option.some.inj q)
theorem rd_sortSetB {B : SetX.Mem} {te : TE} {σ : L2.St} {H : Hp} {Q : VK} (h : te σ H fun v H1 => ∃ (l : Addr) (zs : List B.M), v = V.ref l ∧ SqL K H1 l (zs.map B.val) ∧ (∀ z ∈ zs, B.IsH K H1 z) ∧ zs.length + 1 < B.lim ∧ SetX.Cmpb B zs ∧
  ∀ (p q : Addr) (o : HO) (L : List B.M), H1 p = none → q ≠ p → H1 q = none → SetX.Got B.dat zs L → Q (.ref q) (upd (upd H1 p o) q (.lst ((SetX.srt B L).map B.val)))) : SetX.tSortSet B K te σ H Q := h
local macro_rules | `(tactic| walk_at "rd") => `(tactic| (with_reducible refine rd_sortSetB ?_))
theorem cmp_ints (last : List Int) : SetX.Cmpb SetX.memK (last.map Sum.inl) where
  al := fun d hd d' hd' => by
    obtain ⟨x, hx, rfl⟩ := List.mem_map.mp hd
    obtain ⟨y, hy, rfl⟩ := List.mem_map.mp hd'
    obtain ⟨i, _, rfl⟩ := List.mem_map.mp hx
    obtain ⟨j, _, rfl⟩ := List.mem_map.mp hy
    rfl
  so := .inr fun d hd => by
    obtain ⟨x, hx, rfl⟩ := List.mem_map.mp hd
    obtain ⟨i, _, rfl⟩ := List.mem_map.mp hx
    exact ⟨(fun z => nomatch z), fun _ z => nomatch z⟩
  dp := fun x hx => by
    obtain ⟨i, _, rfl⟩ := List.mem_map.mp hx
    exact Nat.zero_le _
theorem inl_vals (last : List Int) : (last.map (Sum.inl : Int → Key)).map kV = last.map V.int := by rw [List.map_map]; rfl
/-! a loop over any walk, for comprehensions -/
theorem loop_it {J : It} {n : Nat} {G : Hp → Prop} {Y : Nat → Hp → V → Hp → Prop} (w : Walk J n G Y) {Fin : Hp → Prop} {Step : (Hp → Prop) → V → Hp → Prop} {H0 : Hp} (Pv : Nat → Hp → Prop) (h0 : Pv 0 H0) (hG : ∀ i H, i ≤ n → Pv i H → G H)
    (hs : ∀ i x H H', i < n → Pv i H → Y i H x H' → Step (Pv (i + 1)) x H') (hd : ∀ H, Pv n H → Fin H) :
    ∃ W : Nat → Nat → Hp → Prop, (∃ m, W 0 m H0) ∧ ∀ i m H, W i m H → (J.stop i H ∧ Fin H) ∨ (J.go i H ∧ ∃ Nx : Hp → Prop, (∀ H', Nx H' → ∃ m', m' < m ∧ W (i + 1) m' H') ∧ ∀ x H', J.yld i H x H' → Step Nx x H') := by
  refine ⟨fun i m H => m = n - i ∧ i ≤ n ∧ Pv i H, ⟨n, by simp, Nat.zero_le _, h0⟩, ?_⟩
  rintro i m H ⟨rfl, hi, p⟩
  have q := hG i H hi p
  by_cases hlt : i < n
  · exact .inr ⟨w.goes i H hlt q, Pv (i + 1), fun H' p' => ⟨n - (i + 1), by omega, rfl, hlt, p'⟩, fun x H' y => hs i x H H' hlt p (w.yields i H x H' hlt q y)⟩
  · have e : i = n := by omega
    subst e
    exact .inl ⟨w.stops H q, hd H p⟩
/-! loops in generators -/
/-- a for in a generator's body -/
theorem gfor_it {J : It} {n : Nat} {G : Hp → Prop} {Y : Nat → Hp → V → Hp → Prop} (w : Walk J n G Y) {g : TG} {tb : TGn} {D : GEnds} {ys : List V} {σ : L2.St} {H : Hp} (Pv : Nat → List V → L2.St → Hp → Prop) (h0 : Pv 0 ys σ H) (hG : ∀ i ys σ H, i ≤ n → Pv i ys σ H → G H)
    (hs : ∀ i x ys σ H H', i < n → Pv i ys σ H → Y i H x H' → g x σ H' fun σ2 H2 => tb { D with nx := Pv (i + 1), ct := Pv (i + 1), bk := D.nx } ys σ2 H2) (hd : ∀ ys σ H, Pv n ys σ H → D.nx ys σ H) :
    ∃ W : Nat → Nat → List V → L2.St → Hp → Prop, (∃ m, W 0 m ys σ H) ∧ ∀ i m ys σ H, W i m ys σ H →
      (J.stop i H ∧ D.nx ys σ H) ∨ (J.go i H ∧ ∃ N : List V → L2.St → Hp → Prop, (∀ ys' σ' H', N ys' σ' H' → ∃ m', m' < m ∧ W (i + 1) m' ys' σ' H') ∧ ∀ x H', J.yld i H x H' → g x σ H' fun σ2 H2 => tb { D with nx := N, ct := N, bk := D.nx } ys σ2 H2) := by
  refine ⟨fun i m ys σ H => m = n - i ∧ i ≤ n ∧ Pv i ys σ H, ⟨n, by simp, Nat.zero_le _, h0⟩, ?_⟩
  rintro i m ys σ H ⟨rfl, hi, p⟩
  have q := hG i ys σ H hi p
  by_cases hlt : i < n
  · exact .inr ⟨w.goes i H hlt q, Pv (i + 1), fun ys' σ' H' p' => ⟨n - (i + 1), by omega, rfl, hlt, p'⟩, fun x H' y => hs i x ys σ H H' hlt p (w.yields i H x H' hlt q y)⟩
  · have e : i = n := by omega
    subst e
    exact .inl ⟨w.stops H q, hd ys σ H p⟩
theorem rd_gfor {wi : TI} {g : TG} {tb : TGn} {D : GEnds} {ys : List V} {σ : L2.St} {H : Hp} (h : wi σ H fun J H0 => ∃ W : Nat → Nat → List V → L2.St → Hp → Prop, (∃ m, W 0 m ys σ H0) ∧ ∀ i n ys σ H, W i n ys σ H →
  (J.stop i H ∧ D.nx ys σ H) ∨ (J.go i H ∧ ∃ N : List V → L2.St → Hp → Prop, (∀ ys' σ' H', N ys' σ' H' → ∃ m, m < n ∧ W (i + 1) m ys' σ' H') ∧
    ∀ x H', J.yld i H x H' → g x σ H' fun σ1 H1 => tb { D with nx := N, ct := N, bk := D.nx } ys σ1 H1)) : tGFor wi g tb D ys σ H := h
theorem rd_gthen {t u : TGn} {D : GEnds} {ys : List V} {σ : L2.St} {H : Hp} (h : t { D with nx := fun ys' σ' H' => u D ys' σ' H' } ys σ H) : tGThen t u D ys σ H := h
theorem rd_g0 {D : GEnds} {ys : List V} {σ : L2.St} {H : Hp} (h : D.nx ys σ H) : tG0 D ys σ H := h
theorem rd_gif {tc : TT} {ta tb : TGn} {D : GEnds} {ys : List V} {σ : L2.St} {H : Hp} (h : tc σ H fun k H1 => if k = true then ta D ys σ H1 else tb D ys σ H1) : tGIf tc ta tb D ys σ H := h
theorem rd_gyield {te : TE} {D : GEnds} {ys : List V} {σ : L2.St} {H : Hp} (h : ys.length < sizeLine ∧ te σ H fun x H1 => D.nx (ys ++ [x]) σ H1) : tGYield te D ys σ H := h
theorem rd_listG {tg : TGen} {σ : L2.St} {H : Hp} {Q : VK} (h : tg σ H fun out H2 => ∀ p, H2 p = none → Q (.ref p) (upd H2 p (.lst out))) : tListG tg σ H Q := h
theorem rd_methG {C : Addr} {m : Str} {sp : SpG} {dvs : List V} {E : XK} {ta : TE} {t : TA} {σ : L2.St} {H : Hp} {cont : List V → Hp → Prop} (h : ta σ H fun x H1 => ∃ a dx fs, x = .ref a ∧ H1 a = some (.ins C dx fs) ∧ fs.lookup m = none ∧
  t σ H1 fun vs H2 => sp (x :: (vs ++ dvs)) H2 cont E) : tMethG C m sp dvs E ta t σ H cont := h
local macro_rules | `(tactic| walk_at "rd") => `(tactic| first | (with_reducible refine rd_gfor ?_) | (with_reducible refine rd_gthen ?_) | (with_reducible refine rd_g0 ?_) | (with_reducible refine rd_gif ?_) | (with_reducible refine rd_gyield ?_) | (with_reducible refine rd_listG ?_) | (with_reducible refine rd_methG ?_))
/-! lists that rise strictly -/
theorem rise_ext {α : Type} {lt : α → α → Prop} (asym : ∀ a b, lt a b → lt b a → False) : ∀ {l m : List α}, l.Pairwise lt → m.Pairwise lt → (∀ x, x ∈ l ↔ x ∈ m) → l = m
  | [], [], _, _, _ => rfl
  | [], y :: _, _, _, h => absurd ((h y).mpr List.mem_cons_self) (by simp)
  | x :: _, [], _, _, h => absurd ((h x).mp List.mem_cons_self) (by simp)
  | x :: l, y :: m, hl, hm, h => by
    obtain ⟨l1, l2⟩ := List.pairwise_cons.mp hl
    obtain ⟨m1, m2⟩ := List.pairwise_cons.mp hm
    have e : x = y := by
      rcases List.mem_cons.mp ((h x).mp List.mem_cons_self) with q | q
      · exact q
      · rcases List.mem_cons.mp ((h y).mpr List.mem_cons_self) with w | w
        · exact w.symm
        · exact (asym x y (l1 y w) (m1 x q)).elim
    subst e
    have irr : ∀ z, ¬ lt z z := fun z w => asym z z w w
    congr 1
    refine rise_ext asym l2 m2 fun z => ⟨fun q => ?_, fun q => ?_⟩
    · rcases List.mem_cons.mp ((h z).mp (List.mem_cons_of_mem _ q)) with w | w
      · rw [w] at q; exact (irr x (l1 x q)).elim
      · exact w
    · rcases List.mem_cons.mp ((h z).mpr (List.mem_cons_of_mem _ q)) with w | w
      · rw [w] at q; exact (irr x (m1 x q)).elim
      · exact w
theorem ints_rise {l m : List Int} (hl : l.Pairwise (· < ·)) (hm : m.Pairwise (· < ·)) (h : ∀ x, x ∈ l ↔ x ∈ m) : l = m := rise_ext (fun _ _ a b => by omega) hl hm h
/-! the data of lists -/
theorem eqvAll_refl : ∀ (ds : List PyData), (∀ d ∈ ds, PyData.eqv d d = true) → PyData.eqvAll ds ds = true
  | [], _ => by simp [PyData.eqvAll]
  | d :: r, h => by
    rw [PyData.eqvAll, h d List.mem_cons_self, eqvAll_refl r fun x hx => h x (List.mem_cons_of_mem _ hx)]
    rfl
theorem eqv_ints (l : List Int) : PyData.eqv (.list (l.map PyData.int)) (.list (l.map PyData.int)) = true := by
  rw [PyData.eqv]
  refine eqvAll_refl _ fun d hd => ?_
  obtain ⟨i, _, rfl⟩ := List.mem_map.mp hd
  simp [PyData.eqv]
theorem letters_small : ∀ c ∈ letters, c < 0x110000 := by decide +kernel
theorem strOk_one {c : Nat} (h : c ∈ letters) : PyData.strOk (tx [c]) = true := by
  have := letters_small c h
  simp [PyData.strOk, tx, this]
/-! tuples of ints and texts, told by their keys; their order -/
abbrev Ks := List Key
def dU (k : Ks) : PyData := .tuple (k.map SetX.kD)
def shK (k : Ks) : List Bool := k.map Sum.isLeft
def ltU (a b : Ks) : Bool := PySem.W.dataLt (dU a) (dU b)
theorem leaf_alike {x y : Key} (h : x.isLeft = y.isLeft) : PySem.W.alike (SetX.kD x) (SetX.kD y) = true := by
  cases x <;> cases y <;> first | (simp at h; done) | simp [SetX.kD, PySem.W.alike]
theorem leaf_eqv {x y : Key} (h : x.isLeft = y.isLeft) : PyData.eqv (SetX.kD x) (SetX.kD y) = decide (x = y) := by
  cases x <;> cases y
  · rename_i i j; by_cases q : i = j <;> simp [SetX.kD, PyData.eqv, q]
  · simp at h
  · simp at h
  · rename_i i j; by_cases q : i = j <;> simp [SetX.kD, PyData.eqv, q]
theorem leaf_conn {x y : Key} (h : x.isLeft = y.isLeft) (a : PySem.W.dataLt (SetX.kD x) (SetX.kD y) = false) (b : PySem.W.dataLt (SetX.kD y) (SetX.kD x) = false) : x = y := by
  cases x <;> cases y
  · rename_i i j
    rw [SetX.kD, SetX.kD, PySem.W.dataLt_int, decide_eq_false_iff_not] at a b
    rw [show i = j by omega]
  · simp at h
  · simp at h
  · rename_i i j
    rw [SetX.kD, SetX.kD, PySem.W.dataLt_str, decide_eq_false_iff_not] at a b
    rw [show i = j from PySem.W.str_of_cps (List.le_antisymm (List.not_lt.mp b) (List.not_lt.mp a))]
theorem ltU_conn : ∀ {a b : Ks}, shK a = shK b → ltU a b = false → ltU b a = false → a = b := by
  have key : ∀ (a b : Ks), shK a = shK b → PyProof.Rows.lexLt PyProof.Rows.itemOrd (PySem.W.keyToksAll (a.map SetX.kD)) (PySem.W.keyToksAll (b.map SetX.kD)) = false → PyProof.Rows.lexLt PyProof.Rows.itemOrd (PySem.W.keyToksAll (b.map SetX.kD)) (PySem.W.keyToksAll (a.map SetX.kD)) = false → a = b := fun a => by
    induction a with
    | nil =>
      intro b h _ _
      cases b with
      | nil => rfl
      | cons _ _ => cases h
    | cons x a ih =>
      intro b h p q
      cases b with
      | nil => cases h
      | cons y b =>
        injection h with h1 h2
        rw [List.map_cons, List.map_cons, PySem.W.dataLt_cons (leaf_alike h1)] at p
        rw [List.map_cons, List.map_cons, PySem.W.dataLt_cons (leaf_alike h1.symm)] at q
        rw [leaf_eqv h1] at p
        rw [leaf_eqv h1.symm] at q
        by_cases e : x = y
        · rw [if_pos (decide_eq_true e)] at p
          rw [if_pos (decide_eq_true e.symm)] at q
          rw [e, ih b h2 p q]
        · rw [if_neg (by rw [decide_eq_false e]; exact Bool.false_ne_true)] at p
          rw [if_neg (by rw [decide_eq_false (Ne.symm e)]; exact Bool.false_ne_true)] at q
          exact absurd (leaf_conn h1 p q) e
  intro a b h p q
  unfold ltU dU at p q
  rw [PySem.W.dataLt_tuple] at p q
  exact key a b h p q
theorem ltU_asym {a b : Ks} (h : ltU a b = true) (h' : ltU b a = true) : False := by
  have tot : PySem.W.TotalLe (PySem.W.dataLe false dU) := PySem.W.sortLe_total _ _ _
  have := tot.total a b
  have e1 : PySem.W.dataLe false dU a b = !ltU b a := rfl
  have e2 : PySem.W.dataLe false dU b a = !ltU a b := rfl
  rw [e1, e2, h, h'] at this
  rcases this with z | z <;> cases z
/-- strictly ascending -/
def UpU (ks : List Ks) : Prop := ks.Pairwise fun a b => ltU a b = true
theorem UpU.uniq {ks js : List Ks} (h : UpU ks) (g : UpU js) (e : ∀ k, k ∈ ks ↔ k ∈ js) : ks = js := rise_ext (fun _ _ => ltU_asym) h g e
theorem UpU.of_le {ks : List Ks} {sh : List Bool} (le : ks.Pairwise fun a b => ltU b a = false) (nd : ks.Nodup) (hs : ∀ k ∈ ks, shK k = sh) : UpU ks := by
  refine List.Pairwise.imp_of_mem (fun {a b} ha hb q => ?_) (List.pairwise_and_iff.mpr ⟨le, nd⟩)
  cases e : ltU a b with
  | true => rfl
  | false => exact absurd (ltU_conn ((hs a ha).trans (hs b hb).symm) e q.1) q.2
/-- a list of tuples -/
abbrev MU := SetX.MU
structure TsAt (H : Hp) (l : Addr) (ms : List MU) : Prop where
  l : H l = some (.lst (ms.map fun m => V.ref m.1))
  t : ∀ m ∈ ms, H m.1 = some (.tup (m.2.map kV))
theorem TsAt.keep {H H' : Hp} {l : Addr} {ms : List MU} (h : TsAt H l ms) (k1 : ∀ o, H l = some o → H' l = some o) (k2 : ∀ u xs, H u = some (.tup xs) → H' u = some (.tup xs)) : TsAt H' l ms := ⟨k1 _ h.l, fun m hm => k2 _ _ (h.t m hm)⟩
theorem TsAt.same {H H' : Hp} {l : Addr} {ms : List MU} (h : TsAt H l ms) (s : Same H H') : TsAt H' l ms := h.keep (fun _ e => s _ _ e) fun _ _ e => s _ _ e
def keysU (ms : List MU) : List Ks := ms.map Prod.snd
theorem mem_keysU {ms : List MU} {k : Ks} : k ∈ keysU ms ↔ ∃ u, (u, k) ∈ ms := by
  unfold keysU
  rw [List.mem_map]
  exact ⟨fun ⟨m, hm, e⟩ => ⟨m.1, by rw [← e]; exact hm⟩, fun ⟨u, hm⟩ => ⟨_, hm, rfl⟩⟩
theorem all_alike : ∀ {a b : Ks}, shK a = shK b → PySem.W.alikeAll (a.map SetX.kD) (b.map SetX.kD) = true
  | [], [], _ => by simp [PySem.W.alikeAll]
  | [], _ :: _, h => by cases h
  | _ :: _, [], h => by cases h
  | x :: a, y :: b, h => by
    injection h with h1 h2
    rw [List.map_cons, List.map_cons, PySem.W.alikeAll, leaf_alike h1, all_alike h2]
    rfl
theorem cmp_tups {ms : List MU} {sh : List Bool} (hs : ∀ m ∈ ms, shK m.2 = sh) (h0 : sh ≠ []) : SetX.Cmpb SetX.memU ms where
  al := fun d hd d' hd' => by
    obtain ⟨x, hx, rfl⟩ := List.mem_map.mp hd
    obtain ⟨y, hy, rfl⟩ := List.mem_map.mp hd'
    show PySem.W.alike (.tuple (x.2.map SetX.kD)) (.tuple (y.2.map SetX.kD)) = true
    rw [PySem.W.alike]
    exact all_alike ((hs x hx).trans (hs y hy).symm)
  so := .inl fun d hd => by
    obtain ⟨x, hx, rfl⟩ := List.mem_map.mp hd
    have := hs x hx
    show ∃ y r, PyData.tuple (x.2.map SetX.kD) = .tuple (y :: r)
    cases e : x.2 with
    | nil => rw [e] at this; exact absurd this.symm h0
    | cons k r => exact ⟨_, _, rfl⟩
  dp := fun x hx => by
    show (PyData.tuple (x.2.map SetX.kD)).depth ≤ 4
    have : ∀ k : Ks, PyData.depthAll (k.map SetX.kD) = 0 := fun k => by
      induction k with
      | nil => rfl
      | cons a r ih => cases a <;> simp [SetX.kD, PyData.depthAll, PyData.depth] <;> exact ih
    rw [PyData.depth, this]
    decide
/-- sorted(set(..)) of tuples: strictly ascending, the same tuples -/
def srtU (L : List MU) : List MU := L.mergeSort (PySem.W.dataLe false SetX.datU)
theorem srt_got {zs L : List MU} {sh : List Bool} (g : SetX.Got SetX.datU zs L) (hs : ∀ m ∈ zs, shK m.2 = sh) : UpU (keysU (srtU L)) ∧ (∀ k, k ∈ keysU (srtU L) ↔ k ∈ keysU zs) ∧ ∀ m ∈ srtU L, m ∈ zs := by
  have pm : (srtU L).Perm L := List.mergeSort_perm _ _
  have sub : ∀ m ∈ srtU L, m ∈ zs := fun m hm => g.sub m (pm.mem_iff.mp hm)
  have tot : PySem.W.TotalLe (PySem.W.dataLe false SetX.datU) := PySem.W.sortLe_total _ _ _
  have pw : (srtU L).Pairwise fun a b => PySem.W.dataLe false SetX.datU a b = true := PySem.W.sort_pairwise tot L
  have nd : (keysU (srtU L)).Nodup := by
    have n2 : ((srtU L).map SetX.datU).Nodup := (pm.map _).nodup_iff.mpr g.nd
    have n3 : ((keysU (srtU L)).map dU).Nodup := by
      unfold keysU
      rw [List.map_map]
      exact n2
    exact List.Pairwise.of_map dU (fun a b (hne : dU a ≠ dU b) e => hne (by rw [e])) n3
  generalize srtU L = M at pm sub pw nd
  refine ⟨UpU.of_le (sh := sh) ?_ nd fun k hk => ?_, fun k => ⟨fun hk => ?_, fun hk => ?_⟩, sub⟩
  · unfold keysU
    rw [List.pairwise_map]
    refine pw.imp fun {a b} q => ?_
    have q : (!PySem.W.dataLt (SetX.datU b) (SetX.datU a)) = true := q
    exact Bool.eq_false_iff.mpr fun z => by rw [show PySem.W.dataLt (SetX.datU b) (SetX.datU a) = true from z] at q; cases q
  · obtain ⟨u, hm⟩ := mem_keysU.mp hk
    exact hs _ (sub _ hm)
  · obtain ⟨u, hm⟩ := mem_keysU.mp hk
    exact mem_keysU.mpr ⟨u, sub _ hm⟩
  · obtain ⟨u, hm⟩ := mem_keysU.mp hk
    obtain ⟨x, hx, e⟩ := g.all _ hm
    have := SetX.datU_inj e
    exact mem_keysU.mpr ⟨x.1, by rw [← show x.2 = k from this]; exact pm.mem_iff.mpr hx⟩
/-! dicts of lists of any values: the key, the list's place, its items -/
abbrev DVE := Int × Addr × List V
def gv : List DVE → Int → List V
  | [], _ => []
  | e :: r, i => if e.1 = i then e.2.2 else gv r i
def dvK (ks : List DVE) : List (Key × V) := ks.map fun e => (.inl e.1, .ref e.2.1)
def dvA (ks : List DVE) : List Addr := ks.map fun e => e.2.1
structure DV (H : Hp) (d : Addr) (ks : List DVE) : Prop where
  dk : H d = some (.dK (dvK ks))
  ls : ∀ e ∈ ks, H e.2.1 = some (.lst e.2.2)
  kd : (ks.map fun e => e.1).Nodup
  ad : (dvA ks).Nodup
theorem DV.keep {H H' : Hp} {d : Addr} {ks : List DVE} (h : DV H d ks) (k : ∀ b o, b ∈ d :: dvA ks → H b = some o → H' b = some o) : DV H' d ks :=
  ⟨k _ _ List.mem_cons_self h.dk, fun e he => k _ _ (List.mem_cons_of_mem _ (List.mem_map.mpr ⟨e, he, rfl⟩)) (h.ls e he), h.kd, h.ad⟩
theorem DV.same {H H' : Hp} {d : Addr} {ks : List DVE} (h : DV H d ks) (s : Same H H') : DV H' d ks := h.keep fun b o _ e => s b o e
theorem DV.there {H : Hp} {d : Addr} {ks : List DVE} (h : DV H d ks) : ∀ b ∈ d :: dvA ks, ∃ o, H b = some o := fun b hb => by
  rcases List.mem_cons.mp hb with e | e
  · rw [e]; exact ⟨_, h.dk⟩
  · obtain ⟨x, hx, rfl⟩ := List.mem_map.mp e
    exact ⟨_, h.ls x hx⟩
theorem DV.ne {H : Hp} {d : Addr} {ks : List DVE} (h : DV H d ks) : d ∉ dvA ks := fun m => by
  obtain ⟨x, hx, e⟩ := List.mem_map.mp m
  have q := h.ls x hx
  rw [show x.2.1 = d from e, h.dk] at q
  cases q
theorem DV.out {H : Hp} {d b : Addr} {ks : List DVE} {o : HO} (h : DV H d ks) (e : H b = some o) (n1 : ∀ xs, o ≠ .lst xs) (n2 : ∀ kv, o ≠ .dK kv) : b ∉ d :: dvA ks := fun m => by
  rcases List.mem_cons.mp m with z | z
  · rw [z, h.dk] at e; exact n2 _ (Option.some.inj e).symm
  · obtain ⟨x, hx, w⟩ := List.mem_map.mp z
    have q := h.ls x hx
    rw [show x.2.1 = b from w, e] at q
    exact n1 _ (Option.some.inj q)
theorem dv_val : ∀ (ks : List DVE) (i : Int), (valV (dvK ks) (.inl i) = none ∧ gv ks i = [] ∧ ∀ e ∈ ks, e.1 ≠ i) ∨ ∃ a l, (i, a, l) ∈ ks ∧ valV (dvK ks) (.inl i) = some (.ref a) ∧ gv ks i = l
  | [], _ => .inl ⟨rfl, rfl, fun _ h => (nomatch h)⟩
  | e :: r, i => by
    by_cases h : e.1 = i
    · refine .inr ⟨e.2.1, e.2.2, ?_, ?_, ?_⟩
      · rw [← h]; exact List.mem_cons_self
      · exact valV_pos (p := ((.inl e.1 : Key), V.ref e.2.1)) (by rw [h])
      · unfold gv; rw [if_pos h]
    · have hv : valV (dvK (e :: r)) (.inl i) = valV (dvK r) (.inl i) := valV_neg (p := ((.inl e.1 : Key), V.ref e.2.1)) (fun q => h (Sum.inl.inj q))
      have hg : gv (e :: r) i = gv r i := by rw [gv, if_neg h]
      rw [hv, hg]
      rcases dv_val r i with ⟨h1, h2, h3⟩ | ⟨a, l, h1, h2, h3⟩
      · refine .inl ⟨h1, h2, fun x hx => ?_⟩
        rcases List.mem_cons.mp hx with q | q
        · rw [q]; exact h
        · exact h3 x q
      · exact .inr ⟨a, l, List.mem_cons_of_mem _ h1, h2, h3⟩
theorem gv_mid : ∀ {pre post : List DVE} {s : Int} {a : Addr} {l : List V} {x : Int}, (∀ e ∈ pre, e.1 ≠ s) → gv (pre ++ (s, a, l) :: post) x = if x = s then l else gv (pre ++ post) x
  | [], post, s, a, l, x, _ => by
    rw [List.nil_append, List.nil_append, gv]
    by_cases h : s = x
    · rw [if_pos h, if_pos h.symm]
    · rw [if_neg h, if_neg (fun q => h q.symm)]
  | e :: pre, post, s, a, l, x, h => by
    rw [List.cons_append, List.cons_append, gv, gv]
    by_cases q : e.1 = x
    · rw [if_pos q, if_pos q, if_neg (fun z => h e List.mem_cons_self (q.trans z))]
    · rw [if_neg q, if_neg q]
      exact gv_mid fun y hy => h y (List.mem_cons_of_mem _ hy)
/-- d.setdefault(s, []) -/
theorem dv_get {td ty : TE} {d : Addr} {ks : List DVE} {s : Int} {σ : L2.St} {H : Hp} {Q : VK} (h1 : ∀ H1 Q, DV H1 d ks → Same H H1 → Q (.ref d) H1 → td σ H1 Q) (h2 : ∀ H1 Q, Q (.int s) H1 → ty σ H1 Q)
    (hD : DV H d ks) (hn : ks.length < 1000000)
    (h : ∀ H' a pre post, DV H' d (pre ++ (s, a, gv ks s) :: post) → (∀ x, gv (pre ++ (s, a, gv ks s) :: post) x = gv ks x) → Frm (d :: dvA ks) H H' (d :: dvA (pre ++ (s, a, gv ks s) :: post)) → (pre ++ (s, a, gv ks s) :: post).length ≤ ks.length + 1 → Q (.ref a) H') :
    tDSetd td ty (tLst tNil) σ H Q := by
  refine rd_dsetd (h1 _ _ hD (Same.refl _) ?_)
  refine ⟨d, rfl, .inl ⟨_, .inl hD.dk⟩, h2 _ _ (rd_lst (rd_nil ⟨Nat.zero_le _, fun p hp => ?_⟩))⟩
  have dp : d ≠ p := ne_of_none hD.dk hp
  have s0 := Same.new (o := .lst []) hp
  refine ⟨dvK ks, .inl s, s0 _ _ hD.dk, rfl, by unfold dvK; rw [List.length_map, sizeLine_eq]; omega, fun v hv => ?_, fun hv => ?_⟩
  · rcases dv_val ks s with ⟨q, _⟩ | ⟨a, l, hm, q, hg⟩
    · rw [q] at hv; cases hv
    · rw [q] at hv
      cases hv
      obtain ⟨pre, post, e⟩ := List.append_of_mem hm
      subst hg
      refine h _ a pre post (by rw [← e]; exact hD.same s0) (fun x => by rw [← e]) (by rw [← e]; exact Frm.same s0) (by rw [← e]; omega)
  · rcases dv_val ks s with ⟨q, hg, hne⟩ | ⟨a, l, hm, q, hg⟩
    · have ed : putK (dvK ks) (.inl s) (.ref p) = dvK (ks ++ [(s, p, [])]) := by rw [putK_new _ hv]; simp [dvK]
      have pA : p ∉ dvA ks := fun m => by
        obtain ⟨x, hx, z⟩ := List.mem_map.mp m
        have := hD.ls x hx
        rw [show x.2.1 = p from z, hp] at this
        cases this
      have pd : p ≠ d := Ne.symm dp
      have := h (upd (upd H p (.lst [])) d (.dK (putK (dvK ks) (.inl s) (.ref p)))) p ks []
      rw [hg] at this
      refine this ⟨?_, fun x hx => ?_, ?_, ?_⟩ (fun x => ?_) ⟨fun b o n q => ?_, fun b hb => ?_⟩ (by simp)
      · rw [upd_same, ed]
      · rcases List.mem_append.mp hx with z | z
        · have n2 : x.2.1 ≠ d := fun w => hD.ne (w ▸ List.mem_map.mpr ⟨x, z, rfl⟩)
          rw [upd_ne n2]
          exact s0 _ _ (hD.ls x z)
        · rw [List.mem_singleton.mp z]
          show upd (upd H p _) d _ p = _
          rw [upd_ne pd, upd_same]
      · rw [List.map_append]
        refine List.nodup_append.mpr ⟨hD.kd, by simp, fun y hy z hz w => ?_⟩
        obtain ⟨x, hx, rfl⟩ := List.mem_map.mp hy
        rw [List.mem_singleton.mp hz] at w
        exact hne x hx w
      · unfold dvA
        rw [List.map_append]
        refine List.nodup_append.mpr ⟨hD.ad, by simp, fun y hy z hz w => ?_⟩
        rw [List.mem_singleton.mp hz] at w
        exact pA (by rw [← show y = p from w]; exact hy)
      · have := gv_mid (pre := ks) (post := []) (s := s) (a := p) (l := []) (x := x) hne
        rw [List.append_nil] at this
        rw [this]
        by_cases z : x = s
        · rw [if_pos z, z, hg]
        · rw [if_neg z]
      · have nd : b ≠ d := fun z => n (z ▸ List.mem_cons_self)
        rw [upd_ne nd]
        exact s0 _ _ q
      · rcases List.mem_cons.mp hb with z | z
        · exact .inl (z ▸ List.mem_cons_self)
        · unfold dvA at z
          rw [List.map_append] at z
          rcases List.mem_append.mp z with z | z
          · exact .inl (List.mem_cons_of_mem _ z)
          · exact .inr (by rw [List.mem_singleton.mp z]; exact hp)
    · rw [q] at hv; cases hv
/-- .. .append(v) -/
theorem DV.app {H : Hp} {d a : Addr} {pre post : List DVE} {s : Int} {l : List V} (v : V) (h : DV H d (pre ++ (s, a, l) :: post)) :
    H a = some (.lst l) ∧ DV (upd H a (.lst (l ++ [v]))) d (pre ++ (s, a, l ++ [v]) :: post) ∧ (∀ x, gv (pre ++ (s, a, l ++ [v]) :: post) x = if x = s then l ++ [v] else gv (pre ++ (s, a, l) :: post) x) ∧ Frm (d :: dvA (pre ++ (s, a, l) :: post)) H (upd H a (.lst (l ++ [v]))) (d :: dvA (pre ++ (s, a, l ++ [v]) :: post)) := by
  have ea : H a = some (.lst l) := h.ls (s, a, l) (List.mem_append_right _ List.mem_cons_self)
  have kd := h.kd
  have ad := h.ad
  have hma : a ∈ dvA (pre ++ (s, a, l) :: post) := List.mem_map.mpr ⟨(s, a, l), List.mem_append_right _ List.mem_cons_self, rfl⟩
  have ne := h.ne
  rw [List.map_append, List.map_cons] at kd
  have eA : dvA (pre ++ (s, a, l ++ [v]) :: post) = dvA (pre ++ (s, a, l) :: post) := by simp [dvA]
  have eK : dvK (pre ++ (s, a, l ++ [v]) :: post) = dvK (pre ++ (s, a, l) :: post) := by simp [dvK]
  have ad2 := ad
  unfold dvA at ad2
  rw [List.map_append, List.map_cons] at ad2
  obtain ⟨_, kd2, kd3⟩ := List.nodup_append.mp kd
  obtain ⟨_, ad4, ad3⟩ := List.nodup_append.mp ad2
  have npre : ∀ x ∈ pre, x.1 ≠ s := fun x hx => kd3 _ (List.mem_map.mpr ⟨x, hx, rfl⟩) _ List.mem_cons_self
  have apre : ∀ x ∈ pre, x.2.1 ≠ a := fun x hx => ad3 _ (List.mem_map.mpr ⟨x, hx, rfl⟩) _ List.mem_cons_self
  have apost : ∀ x ∈ post, x.2.1 ≠ a := fun x hx z => (List.nodup_cons.mp ad4).1 (List.mem_map.mpr ⟨x, hx, z⟩)
  refine ⟨ea, ⟨?_, fun x hx => ?_, ?_, ?_⟩, fun x => ?_, ⟨fun b o n q => ?_, fun b hb => .inl (by rw [eA] at hb; exact hb)⟩⟩
  · rw [eK, upd_ne (fun z => ne (by rw [z]; exact hma))]
    exact h.dk
  · rcases List.mem_append.mp hx with z | z
    · rw [upd_ne (apre x z)]
      exact h.ls x (List.mem_append_left _ z)
    · rcases List.mem_cons.mp z with z | z
      · subst z
        show upd H a _ a = _
        rw [upd_same]
      · rw [upd_ne (apost x z)]
        exact h.ls x (List.mem_append_right _ (List.mem_cons_of_mem _ z))
  · rw [List.map_append, List.map_cons]
    exact kd
  · rw [eA]; exact ad
  · rw [gv_mid npre, gv_mid npre]
    by_cases z : x = s
    · rw [if_pos z, if_pos z]
    · rw [if_neg z, if_neg z, if_neg z]
  · rw [upd_ne (fun z => n (List.mem_cons_of_mem _ (by rw [z]; exact hma)))]
    exact q
/-! machines: edges, free moves, what stands in a machine -/
abbrev Ed := Int × Str × Int × Int
def kE (e : Ed) : Ks := [.inl e.1, .inr e.2.1, .inl e.2.2.1, .inl e.2.2.2]
def kP (p : Int × Int) : Ks := [.inl p.1, .inl p.2]
def kT (t : Str × Int × Int) : Ks := [.inr t.1, .inl t.2.1, .inl t.2.2]
theorem kE_inj {a b : Ed} (h : kE a = kE b) : a = b := by
  obtain ⟨a1, a2, a3, a4⟩ := a
  obtain ⟨b1, b2, b3, b4⟩ := b
  simp [kE] at h
  obtain ⟨h1, h2, h3, h4⟩ := h
  rw [h1, h2, h3, h4]
theorem kP_inj {a b : Int × Int} (h : kP a = kP b) : a = b := by
  obtain ⟨a1, a2⟩ := a
  obtain ⟨b1, b2⟩ := b
  simp [kP] at h
  rw [h.1, h.2]
structure TEd (H : Hp) (l : Addr) (ms : List MU) (es : List Ed) : Prop where
  t : TsAt H l ms
  k : keysU ms = es.map kE
structure TPr (H : Hp) (l : Addr) (ms : List MU) (fs : List (Int × Int)) : Prop where
  t : TsAt H l ms
  k : keysU ms = fs.map kP
/-- keys that are all of one form come of a list -/
theorem back_keys {α : Type} (f : α → Ks) : ∀ {ks : List Ks}, (∀ k ∈ ks, ∃ a, k = f a) → ∃ l : List α, ks = l.map f
  | [], _ => ⟨[], rfl⟩
  | k :: r, h => by
    obtain ⟨a, e⟩ := h k List.mem_cons_self
    obtain ⟨l, e2⟩ := back_keys f fun x hx => h x (List.mem_cons_of_mem _ hx)
    exact ⟨a :: l, by rw [e, e2]; rfl⟩
theorem len_keys {α : Type} {f : α → Ks} {ms : List MU} {l : List α} (h : keysU ms = l.map f) : ms.length = l.length := by
  have := congrArg List.length h
  unfold keysU at this
  rwa [List.length_map, List.length_map] at this
theorem get_keys {α : Type} {f : α → Ks} {ms : List MU} {l : List α} (h : keysU ms = l.map f) {i : Nat} {x : V} (hx : (ms.map fun m => V.ref m.1)[i]? = some x) : ∃ u a, x = .ref u ∧ ms[i]? = some (u, f a) ∧ l[i]? = some a := by
  rw [List.getElem?_map] at hx
  cases e : ms[i]? with
  | none => rw [e] at hx; cases hx
  | some m =>
    rw [e] at hx
    have lt : i < l.length := by rw [← len_keys h]; exact (List.getElem?_eq_some_iff.mp e).1
    have q := congrArg (fun z : List Ks => z[i]?) h
    dsimp only [keysU] at q
    rw [List.getElem?_map, List.getElem?_map, e, List.getElem?_eq_getElem lt] at q
    cases hx
    refine ⟨m.1, l[i], rfl, ?_, List.getElem?_eq_getElem lt⟩
    have q2 : m.2 = f l[i] := Option.some.inj q
    rw [← q2]
theorem sh_all {α : Type} {f : α → Ks} {sh : List Bool} (hf : ∀ a, shK (f a) = sh) {ms : List MU} {l : List α} (h : keysU ms = l.map f) : ∀ m ∈ ms, shK m.2 = sh := fun m hm => by
  have : m.2 ∈ keysU ms := List.mem_map.mpr ⟨m, hm, rfl⟩
  rw [h] at this
  obtain ⟨a, _, e⟩ := List.mem_map.mp this
  rw [← e, hf]
theorem mem_back {α : Type} {f : α → Ks} (inj : ∀ {a b}, f a = f b → a = b) {l l' : List α} (h : ∀ k, k ∈ l'.map f ↔ k ∈ l.map f) (a : α) : a ∈ l' ↔ a ∈ l := by
  have : ∀ m : List α, f a ∈ m.map f ↔ a ∈ m := fun m => by
    rw [List.mem_map]
    exact ⟨fun ⟨b, hb, e⟩ => by rw [← inj e]; exact hb, fun hb => ⟨a, hb, rfl⟩⟩
  rw [← this l', ← this l]
  exact h _
def mF (n : Int) (F A L O W : Addr) : List (Str × V) := [("many", .int n), ("finals", .ref F), ("arcs", .ref A), ("leads", .ref L), ("outs", .ref O), ("onward", .ref W)]
theorem ne_s1 : (("many" : Str) = "finals") = False := by simp; decide +kernel
theorem ne_s2 : (("many" : Str) = "arcs") = False := by simp; decide +kernel
theorem ne_s3 : (("many" : Str) = "leads") = False := by simp; decide +kernel
theorem ne_s4 : (("many" : Str) = "outs") = False := by simp; decide +kernel
theorem ne_s5 : (("many" : Str) = "onward") = False := by simp; decide +kernel
theorem ne_s6 : (("finals" : Str) = "arcs") = False := by simp; decide +kernel
theorem ne_s7 : (("finals" : Str) = "leads") = False := by simp; decide +kernel
theorem ne_s8 : (("finals" : Str) = "outs") = False := by simp; decide +kernel
theorem ne_s9 : (("finals" : Str) = "onward") = False := by simp; decide +kernel
theorem ne_s10 : (("arcs" : Str) = "leads") = False := by simp; decide +kernel
theorem ne_s11 : (("arcs" : Str) = "outs") = False := by simp; decide +kernel
theorem ne_s12 : (("arcs" : Str) = "onward") = False := by simp; decide +kernel
theorem ne_s13 : (("leads" : Str) = "outs") = False := by simp; decide +kernel
theorem ne_s14 : (("leads" : Str) = "onward") = False := by simp; decide +kernel
theorem ne_s15 : (("outs" : Str) = "onward") = False := by simp; decide +kernel
theorem put1 (a b : V) : putF "finals" b [(("many" : Str), a)] = [(("many" : Str), a), (("finals" : Str), b)] := by simp [putF, ne_s1]
theorem put2 (a b c : V) : putF "arcs" c [(("many" : Str), a), (("finals" : Str), b)] = [(("many" : Str), a), (("finals" : Str), b), (("arcs" : Str), c)] := by simp [putF, ne_s2, ne_s6]
theorem put3 (a b c d : V) : putF "leads" d [(("many" : Str), a), (("finals" : Str), b), (("arcs" : Str), c)] = [(("many" : Str), a), (("finals" : Str), b), (("arcs" : Str), c), (("leads" : Str), d)] := by simp [putF, ne_s3, ne_s7, ne_s10]
theorem put4 (a b c d e : V) : putF "outs" e [(("many" : Str), a), (("finals" : Str), b), (("arcs" : Str), c), (("leads" : Str), d)] = [(("many" : Str), a), (("finals" : Str), b), (("arcs" : Str), c), (("leads" : Str), d), (("outs" : Str), e)] := by simp [putF, ne_s4, ne_s8, ne_s11, ne_s13]
theorem put5 (a b c d e f : V) : putF "onward" f [(("many" : Str), a), (("finals" : Str), b), (("arcs" : Str), c), (("leads" : Str), d), (("outs" : Str), e)] = [(("many" : Str), a), (("finals" : Str), b), (("arcs" : Str), c), (("leads" : Str), d), (("outs" : Str), e), (("onward" : Str), f)] := by simp [putF, ne_s5, ne_s9, ne_s12, ne_s14, ne_s15]
theorem beq_of {a b : Str} (h : (a = b) = False) : (b == a) = false := by
  rw [beq_eq_false_iff_ne]
  exact fun e => (h ▸ e.symm : False)
theorem lk_many (a : V) (r : List (Str × V)) : List.lookup ("many" : Str) ((("many" : Str), a) :: r) = some a := by simp [List.lookup]
theorem lk_finals (a b : V) (r : List (Str × V)) : List.lookup ("finals" : Str) ((("many" : Str), a) :: (("finals" : Str), b) :: r) = some b := by simp [List.lookup, beq_of ne_s1]
theorem lk_arcs (a b c : V) (r : List (Str × V)) : List.lookup ("arcs" : Str) ((("many" : Str), a) :: (("finals" : Str), b) :: (("arcs" : Str), c) :: r) = some c := by simp [List.lookup, beq_of ne_s2, beq_of ne_s6]
theorem lk_leads (a b c d : V) (r : List (Str × V)) : List.lookup ("leads" : Str) ((("many" : Str), a) :: (("finals" : Str), b) :: (("arcs" : Str), c) :: (("leads" : Str), d) :: r) = some d := by simp [List.lookup, beq_of ne_s3, beq_of ne_s7, beq_of ne_s10]
theorem lk_outs (a b c d e : V) (r : List (Str × V)) : List.lookup ("outs" : Str) ((("many" : Str), a) :: (("finals" : Str), b) :: (("arcs" : Str), c) :: (("leads" : Str), d) :: (("outs" : Str), e) :: r) = some e := by simp [List.lookup, beq_of ne_s4, beq_of ne_s8, beq_of ne_s11, beq_of ne_s13]
theorem lk_onward (a b c d e f : V) (r : List (Str × V)) : List.lookup ("onward" : Str) ((("many" : Str), a) :: (("finals" : Str), b) :: (("arcs" : Str), c) :: (("leads" : Str), d) :: (("outs" : Str), e) :: (("onward" : Str), f) :: r) = some f := by simp [List.lookup, beq_of ne_s5, beq_of ne_s9, beq_of ne_s12, beq_of ne_s14, beq_of ne_s15]
theorem rd_sortSc {B : SetX.Mem} {wi : TI} {g : TG} {tt : TT} {te : L2.TE} {vs : List Nat} {σ : L2.St} {H : Hp} {Q : VK} (h : wi σ H fun J H1 => ∀ (D : Addr) (SO : List B.M → HO), H1 D = none → SetX.Lp1 B K SO D J H1 g tt te vs σ (SetX.Done B K SO D Q)) : SetX.tSortSc B K wi g tt te vs σ H Q := h
/-! Machine.__init__ -/
local macro_rules | `(tactic| walk_at "rd") => `(tactic| first | (with_reducible refine rd_sortSetB ?_) | (with_reducible refine rd_sortSc ?_))
/-- what stands in a machine -/
structure MchAt (K : Frg) (H : Hp) (m : Addr) (fp : List Addr) (n : Int) (fin : List Int) (es : List Ed) (fs : List (Int × Int)) : Prop where
  ex : ∃ (dx F A L O W : Addr) (us vs : List MU) (ov : List DVE) (ts : List (Addr × Ed)) (ow : List DLE), H m = some (.ins (He.ga K "Machine") dx (mF n F A L O W)) ∧ H F = some (.lst (fin.map V.int)) ∧ TEd H A us es ∧ TPr H L vs fs ∧ DV H O ov ∧ (∀ x, gv ov x = ((ts.filter fun t => decide (t.2.1 = x)).map fun t => V.ref t.1)) ∧
    (∀ t ∈ ts, H t.1 = some (.tup ((kT t.2.2).map kV))) ∧ ts.map Prod.snd = es ∧ DL H W ow ∧ (∀ x, gr ow x = (fs.filter fun p => decide (p.1 = x)).map Prod.snd) ∧ dlTot ow = fs.length ∧ fp = [m, F, A, L] ++ (O :: dvA ov) ++ (W :: dlA ow)
/-- sorted({(a, b) for a, b in free if a != b}) -/
theorem leads_ok {fa : Addr} {vs : List MU} {fs : List (Int × Int)} {a0 a1 a2 a3 : Option V} {H : Hp} {Q : VK} (hf : TPr H fa vs fs) (z : fs.length ≤ 60)
    (h : ∀ H' p ws fs', Same H H' → H p = none → TPr H' p ws fs' → UpU (fs'.map kP) → (∀ q, q ∈ fs' ↔ q ∈ fs ∧ q.1 ≠ q.2) → fs'.length ≤ fs.length → Q (.ref p) H') :
    SetX.tSortSc SetX.memU K (iList K (tVar 4)) (gTup K 2 (gCons (gName 5) (gCons (gName 8) gNil))) (tTest (tOp (rNeA K) (tVar 5) (tVar 8))) (tTup (tCons (tVar 5) (tCons (tVar 8) tNil))) [5, 8] [a0, a1, a2, a3, some (.ref fa), none, none, none, none] H Q := by
  walk_at "st"
  refine ⟨fa, rfl, ⟨_, .of hf.t.l⟩, fun D SO hD => ?_⟩
  have vl := len_keys hf.k
  refine loop_it (walk_list (K := K) (a := fa) (xs := vs.map fun m => V.ref m.1)) (fun i H3 => Same H H3 ∧ ∃ (zs L : List MU), keysU zs = ((fs.take i).filter fun q => decide (q.1 ≠ q.2)).map kP ∧ (∀ m ∈ zs, H3 m.1 = some (.tup (m.2.map kV)) ∧ m.1 ≠ D) ∧ H3 D = some (SO L) ∧ SetX.Got SetX.datU zs L)
    ⟨Same.new hD, [], [], by rw [List.take_zero]; rfl, fun _ z => (nomatch z), upd_same, SetX.Got.zero⟩ (fun i H3 _ q => .of (q.1 _ _ hf.t.l)) ?_ ?_
  · rintro i x H3 H4 hi ⟨s3, zs, L, ek, ez, eL, got⟩ ⟨rfl, hx⟩
    obtain ⟨u, q, rfl, hu, hq⟩ := get_keys hf.k hx
    obtain ⟨a, b⟩ := q
    have eu : H4 u = some (.tup [V.int a, V.int b]) := s3 _ _ (hf.t.t _ (List.mem_of_getElem? hu))
    have lt := (List.getElem?_eq_some_iff.mp hq).1
    have etk : fs.take (i + 1) = fs.take i ++ [(a, b)] := by rw [List.take_succ_eq_append_getElem lt, (List.getElem?_eq_some_iff.mp hq).2]
    have gl : L.length ≤ zs.length := got.len
    have zl : zs.length ≤ i := by
      rw [len_keys ek]
      exact Nat.le_trans (List.length_filter_le _ _) (List.length_take_le _ _)
    have il : i < 60 := by omega
    refine rd_gtup eu rfl ?_
    walk_at "st"
    refine ⟨rfl, ?_⟩
    walk_at "st"
    by_cases ne : a = b
    · refine rd_iteC (by rw [decide_eq_true ne]; rfl) ?_
      refine ⟨s3, zs, L, ?_, ez, eL, got⟩
      rw [etk, List.filter_append, List.filter_cons_of_neg (by simp [ne])]
      rw [List.filter_nil, List.append_nil]
      exact ek
    refine rd_iteB (by rw [decide_eq_false ne]; rfl) ?_
    walk_at "st"
    intro p hp
    have sp := Same.new (o := .tup [V.int a, V.int b]) hp
    have ep : upd H4 p (.tup [V.int a, V.int b]) p = some (.tup [V.int a, V.int b]) := upd_same
    refine ⟨(p, kP (a, b)), L, rfl, .inl (.inl ep), fun m hm => .inl (.inl (sp _ _ (ez m (got.sub m hm)).1)), sp _ _ eL, Nat.lt_of_le_of_lt (show L.length + 1 ≤ 61 by omega) (by decide), fun L' ad => ?_⟩
    have eL' := sp _ _ eL
    have kt : ∀ u xs, upd H4 p (.tup [V.int a, V.int b]) u = some (.tup xs) → u ≠ D → upd (upd H4 p (.tup [V.int a, V.int b])) D (SO L') u = some (.tup xs) := fun u xs e n => by rw [upd_ne n]; exact e
    refine ⟨fun b o e => ?_, zs ++ [(p, kP (a, b))], L', ?_, fun m hm => ?_, upd_same, got.step ad⟩
    · rw [upd_ne (ne_of_none e hD)]
      exact sp _ _ (s3 _ _ e)
    · unfold keysU at ek ⊢
      rw [List.map_append, ek, etk, List.filter_append, List.filter_cons_of_pos (by simp [ne]), List.map_append]
      rfl
    · rcases List.mem_append.mp hm with w | w
      · exact ⟨kt _ _ (sp _ _ (ez m w).1) (ez m w).2, (ez m w).2⟩
      · rw [List.mem_singleton.mp w]
        have pD : p ≠ D := fun e => by
          rw [e, eL] at hp
          cases hp
        exact ⟨kt _ _ ep pD, pD⟩
  rintro H3 ⟨s3, zs, L, ek, ez, eL, got⟩
  rw [List.length_map, vl, List.take_length] at ek
  have zl : zs.length ≤ 60 := by
    rw [len_keys ek]
    exact Nat.le_trans (List.length_filter_le _ _) z
  have gl : L.length ≤ zs.length := got.len
  have sh : ∀ m ∈ zs, shK m.2 = [true, true] := sh_all (f := kP) (fun _ => rfl) ek
  refine ⟨L, eL, fun m hm => .inl (.inl (ez m (got.sub m hm)).1), Nat.lt_of_le_of_lt (show L.length ≤ 60 by omega) (by decide), (cmp_tups sh (by simp)).sub got.sub, fun L' p pm hp => ?_⟩
  obtain ⟨up, mem, sub⟩ := srt_got (got.perm pm) sh
  obtain ⟨fs', ef⟩ := back_keys kP (ks := keysU (srtU L')) fun k hk => by
    have := (mem k).mp hk
    rw [ek] at this
    obtain ⟨q, _, e⟩ := List.mem_map.mp this
    exact ⟨q, e.symm⟩
  have sp := Same.new (o := .lst ((srtU L').map fun m => V.ref m.1)) hp
  refine h _ p (srtU L') fs' (s3.trans sp) ?_ ⟨⟨upd_same, fun m hm => sp _ _ (ez m (sub m hm)).1⟩, ef⟩ (by rw [← ef]; exact up) (fun q => ?_) ?_
  · cases w : H p with
    | none => rfl
    | some o => rw [s3 _ _ w] at hp; cases hp
  · rw [mem_back (l := fs.filter fun q => decide (q.1 ≠ q.2)) kP_inj (fun k => by rw [← ef, mem, ek]), List.mem_filter, decide_eq_true_eq]
  · have e1 := len_keys ef
    have e2 : (srtU L').length = List.length (α := MU) L' := (List.mergeSort_perm _ _).length_eq
    have e3 : List.length (α := MU) L' = List.length (α := MU) L := pm.length_eq
    have e4 := len_keys ek
    have e5 := List.length_filter_le (fun q : Int × Int => decide (q.1 ≠ q.2)) fs
    omega
/-! Machine.__init__, walked -/
/-- d.setdefault(s, []).append(g) -/
theorem dl_pushH {td ty tg : TE} {d : Addr} {ks : List DLE} {s g : Int} {D : Ends} {σ : L2.St} {H : Hp} (h1 : ∀ Q : VK, Q (.ref d) H → td σ H Q) (h2 : ∀ H1 Q, Q (.int s) H1 → ty σ H1 Q) (h3 : ∀ H1 Q, Q (.int g) H1 → tg σ H1 Q)
    (hD : DL H d ks) (hn : ks.length + dlTot ks < 1000000)
    (h : ∀ H' ks', DL H' d ks' → (∀ x, gr ks' x = if x = s then gr ks x ++ [g] else gr ks x) → Frm (d :: dlA ks) H H' (d :: dlA ks') → ks'.length ≤ ks.length + 1 → dlTot ks' = dlTot ks + 1 → D.nx σ H') :
    tDrop (tBM K "list" rAppend (tDSetd td ty (tLst tNil)) (tCons tg tNil)) D σ H := by
  refine rd_drop (rd_bm (rd_dsetd (h1 _ ?_)))
  refine ⟨d, rfl, .inl ⟨_, .inl hD.dk⟩, h2 _ _ (rd_lst (rd_nil ⟨Nat.zero_le _, fun p hp => ?_⟩))⟩
  have dp : d ≠ p := ne_of_none hD.dk hp
  have keep0 : ∀ b o, H b = some o → upd H p (.lst []) b = some o := fun b o e => by rw [upd_ne (ne_of_none e hp)]; exact e
  refine ⟨dlK ks, .inl s, keep0 _ _ hD.dk, rfl, by unfold dlK; rw [List.length_map, sizeLine_eq]; omega, fun v hv => ?_, fun hv => ?_⟩
  · rcases dl_val ks s with ⟨q, _⟩ | ⟨a, l, hm, q, hg⟩
    · rw [q] at hv; cases hv
    · rw [q] at hv
      cases hv
      obtain ⟨pre, post, e⟩ := List.append_of_mem hm
      have hl := hD.ls _ hm
      have ap : a ≠ p := ne_of_none hl hp
      refine ⟨tyL (keep0 _ _ hl), rd_cons (h3 _ _ (rd_nil ?_))⟩
      have lt : l.length ≤ dlTot ks := dlTot_len hm
      have hma : a ∈ dlA ks := List.mem_map.mpr ⟨_, hm, rfl⟩
      refine append_go (keep0 _ _ hl) (by rw [List.length_map]; show l.length < _; omega) ?_
      have kd := hD.kd
      have ad := hD.ad
      rw [e, List.map_append, List.map_cons] at kd
      unfold dlA at ad
      rw [e, List.map_append, List.map_cons] at ad
      obtain ⟨kd1, kd2, kd3⟩ := List.nodup_append.mp kd
      obtain ⟨ad1, ad2, ad3⟩ := List.nodup_append.mp ad
      have npre : ∀ x ∈ pre, x.1 ≠ s := fun x hx => kd3 _ (List.mem_map.mpr ⟨x, hx, rfl⟩) _ List.mem_cons_self
      have apre : ∀ x ∈ pre, x.2.1 ≠ a := fun x hx => ad3 _ (List.mem_map.mpr ⟨x, hx, rfl⟩) _ List.mem_cons_self
      have apost : ∀ x ∈ post, x.2.1 ≠ a := fun x hx z => (List.nodup_cons.mp ad2).1 (List.mem_map.mpr ⟨x, hx, z⟩)
      have eK : dlK (pre ++ (s, a, l ++ [g]) :: post) = dlK ks := by rw [e]; simp [dlK]
      have eA : dlA (pre ++ (s, a, l ++ [g]) :: post) = dlA ks := by rw [e]; simp [dlA]
      have old : ∀ x ∈ ks, x.2.1 ≠ a → upd (upd H p (.lst [])) a (.lst (l.map V.int ++ [V.int g])) x.2.1 = some (.lst (x.2.2.map V.int)) := fun x hx n => by
        rw [upd_ne n]
        exact keep0 _ _ (hD.ls x hx)
      refine h _ (pre ++ (s, a, l ++ [g]) :: post) ⟨?_, fun x hx => ?_, ?_, ?_⟩ (fun x => ?_) ⟨fun b o n q => ?_, fun b hb => .inl (by rw [eA] at hb; exact hb)⟩ ?_ ?_
      · rw [eK, upd_ne (fun z => hD.ne (by rw [z]; exact hma))]
        exact keep0 _ _ hD.dk
      · rcases List.mem_append.mp hx with z | z
        · exact old x (by rw [e]; exact List.mem_append_left _ z) (apre x z)
        · rcases List.mem_cons.mp z with z | z
          · subst z
            show upd _ a _ a = _
            rw [upd_same, List.map_append]
            rfl
          · exact old x (by rw [e]; exact List.mem_append_right _ (List.mem_cons_of_mem _ z)) (apost x z)
      · rw [List.map_append, List.map_cons]
        exact kd
      · rw [eA]; exact hD.ad
      · rw [gr_mid npre, e, gr_mid npre]
        by_cases z : x = s
        · rw [if_pos z, if_pos z, if_pos z]
        · rw [if_neg z, if_neg z, if_neg z]
      · rw [upd_ne (fun z => n (List.mem_cons_of_mem _ (by rw [z]; exact hma)))]
        exact keep0 _ _ q
      · rw [e]; simp
      · rw [e, dlTot_app, dlTot_app, dlTot_one, dlTot_one, List.length_append]
        simp
        omega
  · rcases dl_val ks s with ⟨q, hg, hne⟩ | ⟨a, l, hm, q, hg⟩
    · have ed : putK (dlK ks) (.inl s) (.ref p) = dlK (ks ++ [(s, p, [])]) := by rw [putK_new _ hv]; simp [dlK]
      have pA : p ∉ dlA ks := fun m => by
        obtain ⟨x, hx, z⟩ := List.mem_map.mp m
        have := hD.ls x hx
        rw [show x.2.1 = p from z, hp] at this
        cases this
      have pd : p ≠ d := Ne.symm dp
      have eP : upd (upd H p (.lst [])) d (.dK (putK (dlK ks) (.inl s) (.ref p))) p = some (.lst []) := by rw [upd_ne pd, upd_same]
      refine ⟨tyL eP, rd_cons (h3 _ _ (rd_nil ?_))⟩
      refine append_go eP (by decide) ?_
      refine h _ (ks ++ [(s, p, [g])]) ⟨?_, fun x hx => ?_, ?_, ?_⟩ (fun x => ?_) ⟨fun b o n q => ?_, fun b hb => ?_⟩ ?_ ?_
      · rw [upd_ne dp, upd_same, ed]
        simp [dlK]
      · rcases List.mem_append.mp hx with z | z
        · have n1 : x.2.1 ≠ p := fun w => pA (w ▸ List.mem_map.mpr ⟨x, z, rfl⟩)
          have n2 : x.2.1 ≠ d := fun w => hD.ne (w ▸ List.mem_map.mpr ⟨x, z, rfl⟩)
          rw [upd_ne n1, upd_ne n2, upd_ne n1]
          exact hD.ls x z
        · rw [List.mem_singleton.mp z]
          show upd _ p _ p = _
          rw [upd_same]
          rfl
      · rw [List.map_append]
        refine List.nodup_append.mpr ⟨hD.kd, by simp, fun y hy z hz w => ?_⟩
        obtain ⟨x, hx, rfl⟩ := List.mem_map.mp hy
        rw [List.mem_singleton.mp hz] at w
        exact hne x hx w
      · unfold dlA
        rw [List.map_append]
        refine List.nodup_append.mpr ⟨hD.ad, by simp, fun y hy z hz w => ?_⟩
        rw [List.mem_singleton.mp hz] at w
        exact pA (by rw [← show y = p from w]; exact hy)
      · have := gr_mid (pre := ks) (post := []) (s := s) (a := p) (l := [g]) (x := x) hne
        rw [List.append_nil] at this
        rw [this]
        by_cases z : x = s
        · rw [if_pos z, if_pos z, z, hg]; rfl
        · rw [if_neg z, if_neg z]
      · have nd : b ≠ d := fun z => n (z ▸ List.mem_cons_self)
        rw [upd_ne (ne_of_none q hp), upd_ne nd]
        exact keep0 _ _ q
      · rcases List.mem_cons.mp hb with z | z
        · exact .inl (z ▸ List.mem_cons_self)
        · unfold dlA at z
          rw [List.map_append] at z
          rcases List.mem_append.mp z with z | z
          · exact .inl (List.mem_cons_of_mem _ z)
          · exact .inr (by rw [List.mem_singleton.mp z]; exact hp)
      · simp
      · rw [dlTot_app, dlTot_one]; simp [dlTot]
    · rw [q] at hv; cases hv
theorem mch_init_ok {P : Program} {mg : Str → Option Value} (T : Txt P K mg) {m dx la ea fa : Addr} {n : Int} {last : List Int} {us vs : List MU} {es : List Ed} {fs : List (Int × Int)} {H : Hp} {Q : VK} {E : XK} (hm : H m = some (.ins (He.ga K "Machine") dx []))
    (hla : H la = some (.lst (last.map V.int))) (he : TEd H ea us es) (hf : TPr H fa vs fs) (z1 : last.length ≤ 50) (z2 : es.length ≤ 60) (z3 : fs.length ≤ 60)
    (h : ∀ H' fp fin es' fs', Keep m H H' → MchAt K H' m fp n fin es' fs' → (∀ b ∈ fp, b = m ∨ H b = none) → (∀ x, x ∈ fin ↔ x ∈ last) → fin.Pairwise (· < ·) → UpU (es'.map kE) → (∀ e, e ∈ es' ↔ e ∈ es) → UpU (fs'.map kP) → (∀ q, q ∈ fs' ↔ q ∈ fs ∧ q.1 ≠ q.2) → es'.length ≤ es.length → fs'.length ≤ fs.length → Q .non H') :
    sp_Machine_init K [.ref m, .int n, .ref la, .ref ea, .ref fa] H Q E := by
  refine ⟨rfl, ?_⟩
  unfold t_Machine_init
  have nT : ∀ {H1 : Hp} {C : Addr} {fl : List (Str × V)} {u : Addr} {xs : List V}, H1 m = some (.ins C dx fl) → H1 u = some (.tup xs) → u ≠ m := fun e1 e2 z => by rw [z, e1] at e2; cases e2
  have nL : ∀ {H1 : Hp} {C : Addr} {fl : List (Str × V)} {u : Addr} {xs : List V}, H1 m = some (.ins C dx fl) → H1 u = some (.lst xs) → u ≠ m := fun e1 e2 z => by rw [z, e1] at e2; cases e2
  walk_at "sq"
  walk_at "st"
  refine ⟨m, _, dx, [], rfl, hm, T.c_Machine, T.n_Machine_many, by simp, ?_⟩
  have e1 : upd H m (.ins (He.ga K "Machine") dx (putF "many" (.int n) [])) m = some (.ins (He.ga K "Machine") dx [(("many" : Str), .int n)]) := upd_same
  have k1 : Keep m H (upd H m (.ins (He.ga K "Machine") dx (putF "many" (.int n) []))) := fun b o nb e => by rw [upd_ne nb]; exact e
  have hla1 := k1 _ _ (nL hm hla) hla
  have he1 : TEd (upd H m (.ins (He.ga K "Machine") dx (putF "many" (.int n) []))) ea us es := ⟨he.t.keep (fun o e => k1 _ _ (fun z => by rw [z, hm] at e; have := he.t.l; rw [z, hm] at this; cases this) e) fun u xs e => k1 _ _ (nT hm e) e, he.k⟩
  have hf1 : TPr (upd H m (.ins (He.ga K "Machine") dx (putF "many" (.int n) []))) fa vs fs := ⟨hf.t.keep (fun o e => k1 _ _ (fun z => by have := hf.t.l; rw [z, hm] at this; cases this) e) fun u xs e => k1 _ _ (nT hm e) e, hf.k⟩
  generalize upd H m (.ins (He.ga K "Machine") dx (putF "many" (.int n) [])) = H1 at e1 k1 hla1 he1 hf1 ⊢
  walk_at "st"
  -- finals
  walk_at "sq"
  walk_at "st"
  refine ⟨la, last.map Sum.inl, rfl, .of (show H1 la = some (.lst ((last.map (Sum.inl : Int → Key)).map kV)) by rw [inl_vals]; exact hla1), fun _ _ => trivial, (show (last.map (Sum.inl : Int → Key)).length + 1 < 4096 by rw [List.length_map]; omega), cmp_ints last, fun pS F oS L hpS nqS hqS got => ?_⟩
  obtain ⟨ef, fm, fw⟩ := fin_ok got
  rw [show (SetX.srt SetX.memK L).map SetX.memK.val = (finOf L).map V.int from ef]
  generalize finOf L = fin at ef fm fw ⊢
  have s2 : Same H1 (upd (upd H1 pS oS) F (.lst (fin.map V.int))) := fun b o e => by rw [upd_ne (ne_of_none e hqS), upd_ne (ne_of_none e hpS)]; exact e
  have eF2 : upd (upd H1 pS oS) F (.lst (fin.map V.int)) F = some (.lst (fin.map V.int)) := upd_same
  have fF : H1 F = none := hqS
  generalize upd (upd H1 pS oS) F (.lst (fin.map V.int)) = H2 at s2 eF2 ⊢
  clear ef got hpS nqS hqS
  walk_at "st"
  refine ⟨m, _, dx, _, rfl, s2 _ _ e1, T.c_Machine, T.n_Machine_finals, by simp, ?_⟩
  rw [put1]
  have nFm : F ≠ m := fun z => by rw [z, e1] at fF; cases fF
  have e3 : upd H2 m (.ins (He.ga K "Machine") dx [(("many" : Str), .int n), (("finals" : Str), .ref F)]) m = some (.ins (He.ga K "Machine") dx [(("many" : Str), .int n), (("finals" : Str), .ref F)]) := upd_same
  have k3 : Keep m H2 (upd H2 m (.ins (He.ga K "Machine") dx [(("many" : Str), .int n), (("finals" : Str), .ref F)])) := fun b o nb e => by rw [upd_ne nb]; exact e
  generalize upd H2 m (.ins (He.ga K "Machine") dx [(("many" : Str), .int n), (("finals" : Str), .ref F)]) = H3 at e3 k3 ⊢
  have eF3 := k3 _ _ nFm eF2
  have k13 : Keep m H1 H3 := fun b o nb e => k3 b o nb (s2 b o e)
  have he3 : TEd H3 ea us es := ⟨he1.t.keep (fun o e => k13 _ _ (fun z => by have := he1.t.l; rw [z, e1] at this; cases this) e) fun u xs e => k13 _ _ (nT e1 e) e, he1.k⟩
  have hf3 : TPr H3 fa vs fs := ⟨hf1.t.keep (fun o e => k13 _ _ (fun z => by have := hf1.t.l; rw [z, e1] at this; cases this) e) fun u xs e => k13 _ _ (nT e1 e) e, hf1.k⟩
  walk_at "st"
  -- arcs
  walk_at "sq"
  walk_at "st"
  have shE : ∀ m ∈ us, shK m.2 = [true, false, true, true] := sh_all (f := kE) (fun _ => rfl) he3.k
  have ul := len_keys he3.k
  refine ⟨ea, us, rfl, .of he3.t.l, fun z hz => .inl (.inl (he3.t.t z hz)), Nat.lt_of_le_of_lt (show us.length + 1 ≤ 61 by omega) (by decide), cmp_tups shE (by simp), fun pS A oS L hpS nqS hqS got => ?_⟩
  obtain ⟨upE, memE, subE⟩ := srt_got got shE
  have lenL : (srtU L).length ≤ us.length := by
    have a1 : (srtU L).length = List.length (α := MU) L := (List.mergeSort_perm _ _).length_eq
    have a2 : List.length (α := MU) L ≤ us.length := got.len
    omega
  rw [show (SetX.srt SetX.memU L).map SetX.memU.val = (srtU L).map fun m => V.ref m.1 from rfl]
  generalize srtU L = as at upE memE subE lenL ⊢
  obtain ⟨es', ees⟩ := back_keys kE (ks := keysU as) fun k hk => by
    have := (memE k).mp hk
    rw [he3.k] at this
    obtain ⟨q, _, e⟩ := List.mem_map.mp this
    exact ⟨q, e.symm⟩
  have esm : ∀ e, e ∈ es' ↔ e ∈ es := fun e => mem_back kE_inj (fun k => by rw [← ees, memE, he3.k]) e
  have s4 : Same H3 (upd (upd H3 pS oS) A (.lst (as.map fun m => V.ref m.1))) := fun b o e => by rw [upd_ne (ne_of_none e hqS), upd_ne (ne_of_none e hpS)]; exact e
  have eA4 : TEd (upd (upd H3 pS oS) A (.lst (as.map fun m => V.ref m.1))) A as es' := ⟨⟨upd_same, fun x hx => s4 _ _ (he3.t.t _ (subE x hx))⟩, ees⟩
  have fA : H3 A = none := hqS
  generalize upd (upd H3 pS oS) A (.lst (as.map fun m => V.ref m.1)) = H4 at s4 eA4 ⊢
  clear got hpS nqS hqS subE memE
  walk_at "st"
  refine ⟨m, _, dx, _, rfl, s4 _ _ e3, T.c_Machine, T.n_Machine_arcs, by simp, ?_⟩
  rw [put2]
  have nAm : A ≠ m := fun z => by rw [z, e3] at fA; cases fA
  have e5 : upd H4 m (.ins (He.ga K "Machine") dx [(("many" : Str), .int n), (("finals" : Str), .ref F), (("arcs" : Str), .ref A)]) m = some (.ins (He.ga K "Machine") dx [(("many" : Str), .int n), (("finals" : Str), .ref F), (("arcs" : Str), .ref A)]) := upd_same
  have k5 : Keep m H4 (upd H4 m (.ins (He.ga K "Machine") dx [(("many" : Str), .int n), (("finals" : Str), .ref F), (("arcs" : Str), .ref A)])) := fun b o nb e => by rw [upd_ne nb]; exact e
  generalize upd H4 m (.ins (He.ga K "Machine") dx [(("many" : Str), .int n), (("finals" : Str), .ref F), (("arcs" : Str), .ref A)]) = H5 at e5 k5 ⊢
  have k35 : Keep m H3 H5 := fun b o nb e => k5 b o nb (s4 b o e)
  have eF5 := k35 _ _ nFm eF3
  have hf5 : TPr H5 fa vs fs := ⟨hf3.t.keep (fun o e => k35 _ _ (fun z => by have := hf3.t.l; rw [z, e3] at this; cases this) e) fun u xs e => k35 _ _ (nT e3 e) e, hf3.k⟩
  have eA5 : TEd H5 A as es' := ⟨eA4.t.keep (fun o e => k5 _ _ nAm e) fun u xs e => k5 _ _ (nT (s4 _ _ e3) e) e, ees⟩
  walk_at "st"
  -- leads
  walk_at "sq"
  refine rd_sfld ?_
  refine leads_ok hf5 z3 fun H6 L ws fs' s6 fL eL6 upF memF lenF => ?_
  walk_at "st"
  refine ⟨m, _, dx, _, rfl, s6 _ _ e5, T.c_Machine, T.n_Machine_leads, by simp, ?_⟩
  rw [put3]
  have nLm : L ≠ m := fun z => by rw [z, e5] at fL; cases fL
  have e7 : upd H6 m (.ins (He.ga K "Machine") dx [(("many" : Str), .int n), (("finals" : Str), .ref F), (("arcs" : Str), .ref A), (("leads" : Str), .ref L)]) m = some (.ins (He.ga K "Machine") dx [(("many" : Str), .int n), (("finals" : Str), .ref F), (("arcs" : Str), .ref A), (("leads" : Str), .ref L)]) := upd_same
  have k7 : Keep m H6 (upd H6 m (.ins (He.ga K "Machine") dx [(("many" : Str), .int n), (("finals" : Str), .ref F), (("arcs" : Str), .ref A), (("leads" : Str), .ref L)])) := fun b o nb e => by rw [upd_ne nb]; exact e
  generalize upd H6 m (.ins (He.ga K "Machine") dx [(("many" : Str), .int n), (("finals" : Str), .ref F), (("arcs" : Str), .ref A), (("leads" : Str), .ref L)]) = H7 at e7 k7 ⊢
  have k57 : Keep m H5 H7 := fun b o nb e => k7 b o nb (s6 b o e)
  have eF7 := k57 _ _ nFm eF5
  have eA7 : TEd H7 A as es' := ⟨eA5.t.keep (fun o e => k57 _ _ nAm e) fun u xs e => k57 _ _ (nT e5 e) e, ees⟩
  have eL7 : TPr H7 L ws fs' := ⟨eL6.t.keep (fun o e => k7 _ _ nLm e) fun u xs e => k7 _ _ (nT (s6 _ _ e5) e) e, eL6.k⟩
  have k17 : Keep m H1 H7 := fun b o nb e => k57 b o nb (k35 b o nb (k13 b o nb e))
  have kH7 : Keep m H H7 := fun b o nb e => k17 b o nb (k1 b o nb e)
  have freeH : ∀ {b : Addr}, b ≠ m → H7 b = none → H b = none := fun {b} nb e => by
    cases w : H b with
    | none => rfl
    | some o => rw [kH7 _ _ nb w] at e; cases e
  have fF' : H F = none := by
    cases w : H F with
    | none => rfl
    | some o => rw [k1 _ _ nFm w] at fF; cases fF
  have fA' : H A = none := by
    cases w : H A with
    | none => rfl
    | some o => rw [k13 _ _ nAm (k1 _ _ nAm w)] at fA; cases fA
  have fL' : H L = none := by
    cases w : H L with
    | none => rfl
    | some o => rw [k35 _ _ nLm (k13 _ _ nLm (k1 _ _ nLm w))] at fL; cases fL
  clear k1 k3 k5 k7 s2 s4 s6 k13 k35 k57 k17 he1 hf1 he3 hf3 hf5 eF2 eF3 eF5 eA4 eA5 eL6 fF fA fL hla1 e1 e3 e5
  walk_at "st"
  -- outs
  walk_at "sq"
  walk_at "st"
  intro O hO
  have sO := Same.new (o := .dK []) hO
  have nOm : O ≠ m := fun z => by rw [z, e7] at hO; cases hO
  walk_at "st"
  refine ⟨m, _, dx, _, rfl, sO _ _ e7, T.c_Machine, T.n_Machine_outs, by simp, ?_⟩
  rw [put4]
  have e8 : upd (upd H7 O (.dK [])) m (.ins (He.ga K "Machine") dx [(("many" : Str), .int n), (("finals" : Str), .ref F), (("arcs" : Str), .ref A), (("leads" : Str), .ref L), (("outs" : Str), .ref O)]) m = some (.ins (He.ga K "Machine") dx [(("many" : Str), .int n), (("finals" : Str), .ref F), (("arcs" : Str), .ref A), (("leads" : Str), .ref L), (("outs" : Str), .ref O)]) := upd_same
  have k8 : Keep m H7 (upd (upd H7 O (.dK [])) m (.ins (He.ga K "Machine") dx [(("many" : Str), .int n), (("finals" : Str), .ref F), (("arcs" : Str), .ref A), (("leads" : Str), .ref L), (("outs" : Str), .ref O)])) := fun b o nb e => by rw [upd_ne nb]; exact sO b o e
  have eO8 : DV (upd (upd H7 O (.dK [])) m (.ins (He.ga K "Machine") dx [(("many" : Str), .int n), (("finals" : Str), .ref F), (("arcs" : Str), .ref A), (("leads" : Str), .ref L), (("outs" : Str), .ref O)])) O [] := ⟨by rw [upd_ne nOm, upd_same]; rfl, fun _ z => (nomatch z), List.Pairwise.nil, List.Pairwise.nil⟩
  have fO' : H O = none := freeH nOm hO
  generalize upd (upd H7 O (.dK [])) m (.ins (He.ga K "Machine") dx [(("many" : Str), .int n), (("finals" : Str), .ref F), (("arcs" : Str), .ref A), (("leads" : Str), .ref L), (("outs" : Str), .ref O)]) = H8 at e8 k8 eO8 ⊢
  have eF8 := k8 _ _ nFm eF7
  have eA8 : TEd H8 A as es' := ⟨eA7.t.keep (fun o e => k8 _ _ nAm e) fun u xs e => k8 _ _ (nT e7 e) e, ees⟩
  have eL8 : TPr H8 L ws fs' := ⟨eL7.t.keep (fun o e => k8 _ _ nLm e) fun u xs e => k8 _ _ (nT e7 e) e, eL7.k⟩
  have kH8 : Keep m H H8 := kH7.trans k8
  have al : as.length = es'.length := len_keys ees
  clear k8 eF7 eA7 eL7 sO hO kH7 freeH e7
  walk_at "st"
  walk_at "sq"
  walk_at "st"
  refine ⟨m, _, dx, _, _, rfl, e8, T.c_Machine, T.n_Machine_arcs, lk_arcs _ _ _ _, ?_⟩
  refine ⟨A, rfl, ⟨_, .of eA8.t.l⟩, ?_⟩
  refine for_list (K := K) (a := A) (xs := as.map fun m => V.ref m.1) (fun i σ H9 => (∃ v5 v6 v7 v8, σ = [some (.ref m), some (.int n), some (.ref la), some (.ref ea), some (.ref fa), v5, v6, v7, v8]) ∧ ∃ (ov : List DVE) (ts : List (Addr × Ed)), DV H9 O ov ∧ (∀ x, gv ov x = ((ts.filter fun t => decide (t.2.1 = x)).map fun t => V.ref t.1)) ∧
      (∀ t ∈ ts, H9 t.1 = some (.tup ((kT t.2.2).map kV))) ∧ ts.map Prod.snd = es'.take i ∧ (∀ b o, b ≠ O → H8 b = some o → H9 b = some o) ∧ (∀ b ∈ dvA ov, H8 b = none) ∧ ov.length ≤ i)
    ⟨⟨none, none, none, none, rfl⟩, [], [], eO8, fun _ => rfl, fun _ z => (nomatch z), by rw [List.take_zero]; rfl, fun _ _ _ e => e, fun _ z => (nomatch z), Nat.le_refl _⟩ (fun i σ H9 _ q => by
      obtain ⟨_, _, _, _, _, _, _, k9, _⟩ := q
      exact .of (k9 _ _ (fun z => by have := eA8.t.l; rw [z, eO8.dk] at this; cases this) eA8.t.l)) ?_ ?_
  · rintro i x σ H9 hi ⟨⟨v5, v6, v7, v8, rfl⟩, ov, ts, D9, g9, t9, m9, k9, f9, l9⟩
    obtain ⟨u, q, rfl, hu, hq⟩ := get_keys ees hi
    have lt := (List.getElem?_eq_some_iff.mp hq).1
    have etk : es'.take (i + 1) = es'.take i ++ [q] := by rw [List.take_succ_eq_append_getElem lt, (List.getElem?_eq_some_iff.mp hq).2]
    obtain ⟨a, z, hh, g⟩ := q
    have nOu : u ≠ O := fun w => by have := eA8.t.t _ (List.mem_of_getElem? hu); rw [show (u, kE (a, z, hh, g)).1 = O from w, eO8.dk] at this; cases this
    have eu : H9 u = some (.tup [V.int a, V.str z, V.int hh, V.int g]) := k9 _ _ nOu (eA8.t.t _ (List.mem_of_getElem? hu))
    have il : i < 60 := by omega
    have tsl : ts.length ≤ i := by
      have := congrArg List.length m9
      rw [List.length_map, List.length_take] at this
      omega
    refine rd_gtup eu rfl (rd_gcons (rd_name (rd_gcons (rd_name (rd_gcons (rd_name (rd_gcons (rd_name (rd_gnil ?_)))))))))
    refine rd_drop (rd_bm ?_)
    refine dv_get (s := a) (fun H1 Q _ s q => rd_fld (rd_var rfl ⟨m, _, dx, _, _, rfl, s _ _ (k9 _ _ (Ne.symm nOm) e8), T.c_Machine, T.n_Machine_outs, lk_outs _ _ _ _ _ _, q⟩)) (fun _ _ w => rd_var rfl w) D9 (by omega) fun H1 ad pre post D1 g1 f1 l1 => ?_
    obtain ⟨ea1, _⟩ := D1.app (.ref m)
    refine ⟨tyL ea1, ?_⟩
    walk_at "st"
    intro p hp
    have sp := Same.new (o := .tup [V.str z, V.int hh, V.int g]) hp
    have ep : upd H1 p (.tup [V.str z, V.int hh, V.int g]) p = some (.tup ((kT (z, hh, g)).map kV)) := upd_same
    have D1' := D1.same sp
    generalize upd H1 p (.tup [V.str z, V.int hh, V.int g]) = H2 at sp ep D1' ⊢
    obtain ⟨ea2, D2, g2, f2⟩ := D1'.app (.ref p)
    walk_at "st"
    have gl : (gv ov a).length ≤ ts.length := by
      rw [g9, List.length_map]
      exact List.length_filter_le _ _
    refine append_go ea2 (by show (gv ov a).length < _; omega) ?_
    have kk : ∀ b o, b ∉ O :: dvA ov → H9 b = some o → H2 b = some o ∧ b ∉ O :: dvA (pre ++ (a, ad, gv ov a) :: post) := fun b o nb e => by
      refine ⟨sp _ _ (f1.keep b o nb e), fun w => ?_⟩
      rcases f1.from_ b w with y | y
      · exact nb y
      · rw [e] at y; cases y
    have kall : ∀ b o, b ∉ O :: dvA ov → H9 b = some o → upd H2 ad (.lst (gv ov a ++ [V.ref p])) b = some o := fun b o nb e => f2.keep b o (kk b o nb e).2 (kk b o nb e).1
    have np : p ∉ O :: dvA (pre ++ (a, ad, gv ov a) :: post) := D1'.out ep (fun _ z => nomatch z) (fun _ z => nomatch z)
    refine ⟨⟨_, _, _, _, rfl⟩, _, ts ++ [(p, (a, z, hh, g))], D2, fun x => ?_, fun t ht => ?_, ?_, fun b o nb e => ?_, fun b hb => ?_, ?_⟩
    · rw [g2, g1, List.filter_append, List.map_append, g9 x]
      by_cases w : x = a
      · rw [if_pos w, w, g9 a, List.filter_cons_of_pos (by simp)]
        rfl
      · rw [if_neg w, List.filter_cons_of_neg (by simp; exact fun y => w y.symm), List.filter_nil]
        simp
    · rcases List.mem_append.mp ht with w | w
      · exact kall _ _ (D9.out (t9 t w) (fun _ z => nomatch z) (fun _ z => nomatch z)) (t9 t w)
      · rw [List.mem_singleton.mp w]
        exact f2.keep _ _ np ep
    · rw [List.map_append, m9, etk]
      rfl
    · refine kall b o (fun w => ?_) (k9 b o nb e)
      rcases List.mem_cons.mp w with y | y
      · exact nb y
      · have := f9 b y; rw [e] at this; cases this
    · have back : ∀ b, H9 b = none → H8 b = none := fun b e => by
        cases w : H8 b with
        | none => rfl
        | some o =>
          by_cases y : b = O
          · rw [y, D9.dk] at e; cases e
          · rw [k9 b o y w] at e; cases e
      have inA : b ∈ dvA (pre ++ (a, ad, gv ov a) :: post) := by
        have e : dvA (pre ++ (a, ad, gv ov a ++ [V.ref p]) :: post) = dvA (pre ++ (a, ad, gv ov a) :: post) := by simp [dvA]
        rw [← e]; exact hb
      rcases f1.from_ b (List.mem_cons_of_mem _ inA) with y | y
      · rcases List.mem_cons.mp y with y | y
        · exact absurd (by rw [← y]; exact inA) D1.ne
        · exact f9 b y
      · exact back b y
    · simp only [List.length_append, List.length_cons] at l1 ⊢
      omega
  rintro σ H9 ⟨⟨v5, v6, v7, v8, rfl⟩, ov, ts, D9, g9, t9, m9, k9, f9, l9⟩
  rw [List.length_map, al, List.take_length] at m9
  -- onward
  have nFO : ∀ {b : Addr} {xs : List V}, H8 b = some (.lst xs) → b ≠ O := fun e z => by rw [z, eO8.dk] at e; cases e
  have nTO : ∀ {b : Addr} {xs : List V}, H8 b = some (.tup xs) → b ≠ O := fun e z => by rw [z, eO8.dk] at e; cases e
  have e9 := k9 _ _ (Ne.symm nOm) e8
  have eF9 := k9 _ _ (nFO eF8) eF8
  have eA9 : TEd H9 A as es' := ⟨eA8.t.keep (fun o e => k9 _ _ (nFO eA8.t.l) e) fun u xs e => k9 _ _ (nTO e) e, ees⟩
  have eL9 : TPr H9 L ws fs' := ⟨eL8.t.keep (fun o e => k9 _ _ (nFO eL8.t.l) e) fun u xs e => k9 _ _ (nTO e) e, eL8.k⟩
  have kH9 : Keep m H H9 := fun b o nb e => k9 b o (fun z => by rw [z, fO'] at e; cases e) (kH8 b o nb e)
  have fOv : ∀ b ∈ dvA ov, b = m ∨ H b = none := fun b hb => by
    by_cases z : b = m
    · exact .inl z
    · refine .inr ?_
      cases w : H b with
      | none => rfl
      | some o => have := f9 b hb; rw [kH8 b o z w] at this; cases this
  clear eA8 eL8 eF8 k9 f9 kH8 nFO nTO e8
  walk_at "sq"
  walk_at "st"
  intro W hW
  have sW := Same.new (o := .dK []) hW
  have nWm : W ≠ m := fun z => by rw [z, e9] at hW; cases hW
  walk_at "st"
  refine ⟨m, _, dx, _, rfl, sW _ _ e9, T.c_Machine, T.n_Machine_onward, by simp, ?_⟩
  rw [put5]
  have eA : upd (upd H9 W (.dK [])) m (.ins (He.ga K "Machine") dx [(("many" : Str), .int n), (("finals" : Str), .ref F), (("arcs" : Str), .ref A), (("leads" : Str), .ref L), (("outs" : Str), .ref O), (("onward" : Str), .ref W)]) m = some (.ins (He.ga K "Machine") dx (mF n F A L O W)) := upd_same
  have kA : Keep m H9 (upd (upd H9 W (.dK [])) m (.ins (He.ga K "Machine") dx [(("many" : Str), .int n), (("finals" : Str), .ref F), (("arcs" : Str), .ref A), (("leads" : Str), .ref L), (("outs" : Str), .ref O), (("onward" : Str), .ref W)])) := fun b o nb e => by rw [upd_ne nb]; exact sW b o e
  have eWA : DL (upd (upd H9 W (.dK [])) m (.ins (He.ga K "Machine") dx [(("many" : Str), .int n), (("finals" : Str), .ref F), (("arcs" : Str), .ref A), (("leads" : Str), .ref L), (("outs" : Str), .ref O), (("onward" : Str), .ref W)])) W [] := ⟨by rw [upd_ne nWm, upd_same]; rfl, fun _ z => (nomatch z), List.Pairwise.nil, List.Pairwise.nil⟩
  have fW' : H W = none := by
    cases w : H W with
    | none => rfl
    | some o => rw [kH9 _ _ nWm w] at hW; cases hW
  have nmO : m ∉ O :: dvA ov := D9.out e9 (fun _ z => nomatch z) (fun _ z => nomatch z)
  generalize upd (upd H9 W (.dK [])) m (.ins (He.ga K "Machine") dx [(("many" : Str), .int n), (("finals" : Str), .ref F), (("arcs" : Str), .ref A), (("leads" : Str), .ref L), (("outs" : Str), .ref O), (("onward" : Str), .ref W)]) = HA at eA kA eWA ⊢
  have eFA := kA _ _ nFm eF9
  have eAA : TEd HA A as es' := ⟨eA9.t.keep (fun o e => kA _ _ nAm e) fun u xs e => kA _ _ (nT e9 e) e, ees⟩
  have eLA : TPr HA L ws fs' := ⟨eL9.t.keep (fun o e => kA _ _ nLm e) fun u xs e => kA _ _ (nT e9 e) e, eL9.k⟩
  have DA : DV HA O ov := D9.keep fun b o hb e => kA b o (fun z => nmO (z ▸ hb)) e
  have tA : ∀ t ∈ ts, HA t.1 = some (.tup ((kT t.2.2).map kV)) := fun t ht => kA _ _ (nT e9 (t9 t ht)) (t9 t ht)
  have kHA := kH9.trans kA
  have wl : ws.length = fs'.length := len_keys eLA.k
  have nOW : ∀ b ∈ O :: dvA ov, b ≠ W := fun b hb z => by
    obtain ⟨o, ho⟩ := D9.there b hb
    rw [z, hW] at ho
    cases ho
  clear kA eF9 eA9 eL9 sW hW kH9 e9 D9 t9 nmO
  walk_at "st"
  refine ⟨m, _, dx, _, _, rfl, eA, T.c_Machine, T.n_Machine_leads, lk_leads _ _ _ _ _, ?_⟩
  refine ⟨L, rfl, ⟨_, .of eLA.t.l⟩, ?_⟩
  refine for_list (K := K) (a := L) (xs := ws.map fun m => V.ref m.1) (fun i σ HB => (∃ v5 v6 v7 v8, σ = [some (.ref m), some (.int n), some (.ref la), some (.ref ea), some (.ref fa), v5, v6, v7, v8]) ∧ ∃ (ow : List DLE), DL HB W ow ∧ (∀ x, gr ow x = ((fs'.take i).filter fun p => decide (p.1 = x)).map Prod.snd) ∧ dlTot ow = i ∧
      (∀ b o, b ≠ W → HA b = some o → HB b = some o) ∧ (∀ b ∈ dlA ow, HA b = none) ∧ ow.length ≤ i)
    ⟨⟨_, _, _, _, rfl⟩, [], eWA, fun _ => by rw [List.take_zero]; rfl, rfl, fun _ _ _ e => e, fun _ z => (nomatch z), Nat.le_refl _⟩ (fun i σ HB _ q => by
      obtain ⟨_, _, _, _, _, kB, _⟩ := q
      exact .of (kB _ _ (fun z => by have := eLA.t.l; rw [z, eWA.dk] at this; cases this) eLA.t.l)) ?_ ?_
  · rintro i x σ HB hi ⟨⟨v5, v6, v7, v8, rfl⟩, ow, DB, gB, tot, kB, fB, lB⟩
    obtain ⟨u, q, rfl, hu, hq⟩ := get_keys eLA.k hi
    have lt := (List.getElem?_eq_some_iff.mp hq).1
    have etk : fs'.take (i + 1) = fs'.take i ++ [q] := by rw [List.take_succ_eq_append_getElem lt, (List.getElem?_eq_some_iff.mp hq).2]
    obtain ⟨a, g⟩ := q
    have nWu : u ≠ W := fun w => by have := eLA.t.t _ (List.mem_of_getElem? hu); rw [show (u, kP (a, g)).1 = W from w, eWA.dk] at this; cases this
    have eu : HB u = some (.tup [V.int a, V.int g]) := kB _ _ nWu (eLA.t.t _ (List.mem_of_getElem? hu))
    have il : i < 60 := by omega
    refine rd_gtup eu rfl (rd_gcons (rd_name (rd_gcons (rd_name (rd_gnil ?_)))))
    refine dl_pushH (s := a) (g := g) (fun Q q => rd_fld (rd_var rfl ⟨m, _, dx, _, _, rfl, kB _ _ (Ne.symm nWm) eA, T.c_Machine, T.n_Machine_onward, lk_onward _ _ _ _ _ _ _, q⟩)) (fun _ _ w => rd_var rfl w) (fun _ _ w => rd_var rfl w) DB (by omega) fun HC ow' DC gC fC lC tC => ?_
    have back : ∀ b, HB b = none → HA b = none := fun b e => by
      cases w : HA b with
      | none => rfl
      | some o =>
        by_cases y : b = W
        · rw [y, DB.dk] at e; cases e
        · rw [kB b o y w] at e; cases e
    refine ⟨⟨_, _, _, _, rfl⟩, ow', DC, fun x => ?_, by omega, fun b o nb e => ?_, fun b hb => ?_, by omega⟩
    · rw [gC, gB x, etk, List.filter_append, List.map_append]
      by_cases w : x = a
      · rw [if_pos w, w, List.filter_cons_of_pos (by simp)]
        rfl
      · rw [if_neg w, List.filter_cons_of_neg (by simp; exact fun y => w y.symm), List.filter_nil]
        simp
    · refine fC.keep b o (fun w => ?_) (kB b o nb e)
      rcases List.mem_cons.mp w with y | y
      · exact nb y
      · have := fB b y; rw [e] at this; cases this
    · rcases fC.from_ b (List.mem_cons_of_mem _ hb) with y | y
      · rcases List.mem_cons.mp y with y | y
        · exact absurd (by rw [← y]; exact hb) DC.ne
        · exact fB b y
      · exact back b y
  · rintro σ HB ⟨⟨v5, v6, v7, v8, rfl⟩, ow, DB, gB, tot, kB, fB, lB⟩
    rw [List.length_map, wl] at tot
    have gB' : ∀ x, gr ow x = (fs'.filter fun p => decide (p.1 = x)).map Prod.snd := fun x => by rw [gB x, List.length_map, wl, List.take_length]
    have nLW : ∀ {b : Addr} {xs : List V}, HA b = some (.lst xs) → b ≠ W := fun e z => by rw [z, eWA.dk] at e; cases e
    have nTW : ∀ {b : Addr} {xs : List V}, HA b = some (.tup xs) → b ≠ W := fun e z => by rw [z, eWA.dk] at e; cases e
    refine h HB _ fin es' fs' (fun b o nb e => kB b o (fun z => by rw [z, fW'] at e; cases e) (kHA b o nb e)) ⟨dx, F, A, L, O, W, as, ws, ov, ts, ow, kB _ _ (Ne.symm nWm) eA, kB _ _ (nLW eFA) eFA, ⟨eAA.t.keep (fun o e => kB _ _ (nLW eAA.t.l) e) fun u xs e => kB _ _ (nTW e) e, ees⟩, ⟨eLA.t.keep (fun o e => kB _ _ (nLW eLA.t.l) e) fun u xs e => kB _ _ (nTW e) e, eLA.k⟩, DA.keep fun b o hb e => kB b o (nOW b hb) e, g9, fun t ht => kB _ _ (nTW (tA t ht)) (tA t ht), m9, DB, gB', tot, rfl⟩ (fun b hb => ?_) fm fw (by rw [← ees]; exact upE) esm (by rw [← eLA.k]; rw [eLA.k]; exact upF) memF (by omega) lenF
    rw [List.append_assoc] at hb
    rcases List.mem_append.mp hb with w | w
    · rcases List.mem_cons.mp w with w | w
      · exact .inl w
      rcases List.mem_cons.mp w with w | w
      · exact .inr (w ▸ fF')
      rcases List.mem_cons.mp w with w | w
      · exact .inr (w ▸ fA')
      · exact .inr (List.mem_singleton.mp w ▸ fL')
    rcases List.mem_append.mp w with w | w
    · rcases List.mem_cons.mp w with w | w
      · exact .inr (w ▸ fO')
      · exact fOv b w
    · rcases List.mem_cons.mp w with w | w
      · exact .inr (w ▸ fW')
      · by_cases z : b = m
        · exact .inl z
        · refine .inr ?_
          cases y : H b with
          | none => rfl
          | some o => have := fB b w; rw [kHA b o z y] at this; cases this
/-! comprehensions of any items -/
/-- an item: a plain value, or a new tuple -/
def ItemAt (H : Hp) (y : V) : V ⊕ List V → Prop
  | .inl v => y = v
  | .inr z => ∃ b, y = .ref b ∧ H b = some (.tup z)
theorem ItemAt.keep {H H' : Hp} {y : V} {z : V ⊕ List V} (h : ItemAt H y z) (k : ∀ b xs, H b = some (.tup xs) → H' b = some (.tup xs)) : ItemAt H' y z := by
  cases z with
  | inl v => exact h
  | inr z => obtain ⟨b, e, q⟩ := h; exact ⟨b, e, k _ _ q⟩
structure ItemsAt (H : Hp) (ys : List V) (zs : List (V ⊕ List V)) : Prop where
  l : ys.length = zs.length
  g : ∀ (j : Nat) (y : V) (z : V ⊕ List V), ys[j]? = some y → zs[j]? = some z → ItemAt H y z
theorem ItemsAt.keep {H H' : Hp} {ys : List V} {zs : List (V ⊕ List V)} (h : ItemsAt H ys zs) (k : ∀ b xs, H b = some (.tup xs) → H' b = some (.tup xs)) : ItemsAt H' ys zs := ⟨h.l, fun j y z a b => (h.g j y z a b).keep k⟩
theorem ItemsAt.snoc {H : Hp} {ys : List V} {zs : List (V ⊕ List V)} {y : V} {z : V ⊕ List V} (h : ItemsAt H ys zs) (q : ItemAt H y z) : ItemsAt H (ys ++ [y]) (zs ++ [z]) := by
  refine ⟨by rw [List.length_append, List.length_append, h.l]; rfl, fun j u v a b => ?_⟩
  by_cases hj : j < ys.length
  · rw [List.getElem?_append_left hj] at a
    rw [List.getElem?_append_left (by rw [← h.l]; exact hj)] at b
    exact h.g j u v a b
  · have lt := (List.getElem?_eq_some_iff.mp a).1
    rw [List.length_append, List.length_singleton] at lt
    have ej : j = ys.length := by omega
    subst ej
    rw [List.getElem?_append_right (Nat.le_refl _), Nat.sub_self] at a
    rw [h.l, List.getElem?_append_right (Nat.le_refl _), Nat.sub_self] at b
    cases a
    cases b
    exact q
def Told (H : Hp) (oy : Option V) : Option (V ⊕ List V) → Prop
  | none => oy = none
  | some z => ∃ y, oy = some y ∧ ItemAt H y z
def LcAt (J : It) (g : TG) (tt : TT) (te : TE) (vs : List Nat) (σ : L2.St) (H1 : Hp) (D : Addr) (Q : VK) : Prop :=
    ∃ W : Nat → Nat → Hp → Prop, (∃ m, W 0 m (upd H1 D (.lst []))) ∧ ∀ i m H, W i m H →
      (J.stop i H ∧ Q (.ref D) H) ∨ (J.go i H ∧ ∃ Nx : Hp → Prop, (∀ H', Nx H' → ∃ m', m' < m ∧ W (i + 1) m' H') ∧ ∀ x H', J.yld i H x H' → g x (wipe σ vs) H' fun σ2 H2 => wipe σ2 vs = wipe σ vs ∧ tt σ2 H2 fun b H3 =>
        if b = true then te σ2 H3 fun y H4 => ∃ acc, H4 D = some (.lst acc) ∧ acc.length < sizeLine ∧ Nx (upd H4 D (.lst (acc ++ [y]))) else Nx H3)
theorem rd_lcA {wi : TI} {g : TG} {tt : TT} {te : TE} {vs : List Nat} {σ : L2.St} {H : Hp} {Q : VK} (h : wi σ H fun J H1 => ∀ D, H1 D = none → LcAt J g tt te vs σ H1 D Q) : tLc wi g tt te vs σ H Q := h
local macro_rules | `(tactic| walk_at "rd") => `(tactic| (with_reducible refine rd_lcA ?_))
theorem lcA {J : It} {n : Nat} {Y : Hp → Prop} {yl : Nat → Hp → V → Hp → Prop} (wk : Walk J n Y yl) (bs : List (Option (V ⊕ List V))) {g : TG} {tt : TT} {te : TE} {vs : List Nat} {σ : L2.St} {H1 : Hp} {Q : VK} {D : Addr} (hD : H1 D = none) (hY : ∀ H2, Same H1 H2 → Y H2) (hl : bs.length = n) (hz : n ≤ 100000)
    (hs : ∀ (i : Nat) (x : V) (ob : Option (V ⊕ List V)) (H2 H3 : Hp) (C : Option V → Hp → Prop), i < n → Same H1 H2 → yl i H2 x H3 → bs[i]? = some ob → (∀ H4 oy, Same H2 H4 → Told H4 oy ob → C oy H4) →
      g x (wipe σ vs) H3 fun σ2 H4 => wipe σ2 vs = wipe σ vs ∧ tt σ2 H4 fun b H5 => if b = true then te σ2 H5 fun y H6 => C (some y) H6 else C none H5)
    (hd : ∀ H' ys, Same H1 H' → H' D = some (.lst ys) → ItemsAt H' ys (bs.filterMap id) → Q (.ref D) H') :
    LcAt J g tt te vs σ H1 D Q := by
  refine lc_it (Qd := Q (.ref D)) wk (fun i H2 => Same H1 H2 ∧ ∃ ys, H2 D = some (.lst ys) ∧ ItemsAt H2 ys ((bs.take i).filterMap id)) ⟨Same.new hD, [], upd_same, rfl, fun j y z a => by simp at a⟩ (fun i H2 _ q => hY _ q.1) ?_ ?_
  · rintro i x H2 H3 hi ⟨s2, ys, eD, it⟩ hy
    have lt : i < bs.length := by omega
    have hb : bs[i]? = some bs[i] := List.getElem?_eq_getElem lt
    have etk : bs.take (i + 1) = bs.take i ++ [bs[i]] := List.take_succ_eq_append_getElem lt
    have := hs i x _ H2 H3 (fun oy H4 => match oy with | some y => ∃ acc, H4 D = some (.lst acc) ∧ acc.length < sizeLine ∧ (fun H2 => Same H1 H2 ∧ ∃ ys, H2 D = some (.lst ys) ∧ ItemsAt H2 ys ((bs.take (i + 1)).filterMap id)) (upd H4 D (.lst (acc ++ [y]))) | none => Same H1 H4 ∧ ∃ ys, H4 D = some (.lst ys) ∧ ItemsAt H4 ys ((bs.take (i + 1)).filterMap id)) hi s2 hy hb ?_
    · exact this
    · intro H4 oy s4 told
      have it4 : ItemsAt H4 ys ((bs.take i).filterMap id) := it.keep fun b xs e => s4 _ _ e
      have eD4 := s4 _ _ eD
      cases e : bs[i] with
      | none =>
        rw [e] at told
        cases told
        refine ⟨s2.trans s4, ys, eD4, ?_⟩
        rw [etk, List.filterMap_append, e]
        simpa using it4
      | some z =>
        rw [e] at told
        obtain ⟨y, rfl, q⟩ := told
        refine ⟨_, eD4, ?_, fun b o q => ?_, _, upd_same, ?_⟩
        · have h1 := List.length_filterMap_le id (bs.take i)
          have h2 := List.length_take_le i bs
          have h3 := it.l
          rw [sizeLine_eq]; omega
        · rw [upd_ne (ne_of_none q hD)]
          exact s4 _ _ (s2 _ _ q)
        · have k : ∀ b xs, H4 b = some (.tup xs) → upd H4 D (.lst (ys ++ [y])) b = some (.tup xs) := fun b xs q => by
            rw [upd_ne (fun w => by rw [w, eD4] at q; cases q)]
            exact q
          rw [etk, List.filterMap_append, e]
          exact (it4.keep k).snoc (q.keep k)
  · rintro H2 ⟨s2, ys, eD, it⟩
    rw [← hl, List.take_length] at it
    exact hd H2 ys s2 eD it
theorem fm_some {α β : Type} (l : List α) (f : α → β) : (l.map fun a => some (f a)).filterMap id = l.map f := by
  induction l with
  | nil => rfl
  | cons a r ih => simp [List.filterMap_cons]
theorem items_v {H : Hp} {vs : List V} : ∀ {ys : List V}, ItemsAt H ys (vs.map Sum.inl) → ys = vs := by
  intro ys h
  refine List.ext_getElem? fun j => ?_
  have hl := h.l
  rw [List.length_map] at hl
  by_cases hj : j < vs.length
  · rw [List.getElem?_eq_getElem hj, List.getElem?_eq_getElem (by omega)]
    have := h.g j ys[j] (.inl vs[j]) (List.getElem?_eq_getElem (by omega)) (by rw [List.getElem?_map, List.getElem?_eq_getElem hj]; rfl)
    exact congrArg some this
  · rw [List.getElem?_eq_none (by omega), List.getElem?_eq_none (by omega)]
theorem ix0 {v : V} {xs : List V} : atI (v :: xs) 0 = some v := atI_nat (j := 0) rfl
theorem ix1 {u v : V} {xs : List V} : atI (u :: v :: xs) 1 = some v := atI_nat (j := 1) rfl
theorem ix2 {t u v : V} {xs : List V} : atI (t :: u :: v :: xs) 2 = some v := atI_nat (j := 2) rfl
/-! what a machine tells -/
theorem MchAt.keep {K : Frg} {H H' : Hp} {m : Addr} {fp : List Addr} {n : Int} {fin : List Int} {es : List Ed} {fs : List (Int × Int)} (h : MchAt K H m fp n fin es fs) (k : ∀ b o, b ∈ fp → H b = some o → H' b = some o) (kt : ∀ u xs, H u = some (.tup xs) → H' u = some (.tup xs)) : MchAt K H' m fp n fin es fs := by
  obtain ⟨dx, F, A, L, O, W, us, vs, ov, ts, ow, a1, a2, a3, a4, a5, a6, a7, a8, a9, a10, a11, rfl⟩ := h.ex
  have i1 : ∀ b ∈ [m, F, A, L], b ∈ [m, F, A, L] ++ (O :: dvA ov) ++ (W :: dlA ow) := fun b z => List.mem_append_left _ (List.mem_append_left _ z)
  exact ⟨dx, F, A, L, O, W, us, vs, ov, ts, ow, k _ _ (i1 _ (by simp)) a1, k _ _ (i1 _ (by simp)) a2, ⟨a3.t.keep (fun o e => k _ _ (i1 _ (by simp)) e) kt, a3.k⟩, ⟨a4.t.keep (fun o e => k _ _ (i1 _ (by simp)) e) kt, a4.k⟩,
    a5.keep fun b o hb e => k _ _ (List.mem_append_left _ (List.mem_append_right _ hb)) e, a6, fun t ht => kt _ _ (a7 t ht), a8, a9.keep fun b o hb e => k _ _ (List.mem_append_right _ hb) e, a10, a11, rfl⟩
theorem MchAt.same {K : Frg} {H H' : Hp} {m : Addr} {fp : List Addr} {n : Int} {fin : List Int} {es : List Ed} {fs : List (Int × Int)} (h : MchAt K H m fp n fin es fs) (s : Same H H') : MchAt K H' m fp n fin es fs := h.keep (fun b o _ e => s b o e) fun u xs e => s _ _ e
/-- all of its own stands in the heap -/
theorem MchAt.there {K : Frg} {H : Hp} {m : Addr} {fp : List Addr} {n : Int} {fin : List Int} {es : List Ed} {fs : List (Int × Int)} (h : MchAt K H m fp n fin es fs) : ∀ b ∈ fp, H b ≠ none := by
  obtain ⟨dx, F, A, L, O, W, us, vs, ov, ts, ow, a1, a2, a3, a4, a5, a6, a7, a8, a9, a10, a11, rfl⟩ := h.ex
  intro b hb e
  rw [List.append_assoc] at hb
  rcases List.mem_append.mp hb with w | w
  · rcases List.mem_cons.mp w with w | w
    · rw [w, a1] at e; cases e
    rcases List.mem_cons.mp w with w | w
    · rw [w, a2] at e; cases e
    rcases List.mem_cons.mp w with w | w
    · rw [w, a3.t.l] at e; cases e
    · rw [List.mem_singleton.mp w, a4.t.l] at e; cases e
  rcases List.mem_append.mp w with w | w
  · obtain ⟨o, z⟩ := a5.there b w
    rw [z] at e; cases e
  · obtain ⟨o, z⟩ := a9.there b w
    rw [z] at e; cases e
theorem mch_states_ok {P : Program} {mg : Str → Option Value} (T : Txt P K mg) {m : Addr} {fp : List Addr} {n : Int} {fin : List Int} {es : List Ed} {fs : List (Int × Int)} {H : Hp} {Q : VK} {E : XK} (h : MchAt K H m fp n fin es fs) (q : Q (.int n) H) : sp_Machine_states K [.ref m] H Q E := by
  obtain ⟨dx, F, A, L, O, W, us, vs, ov, ts, ow, a1, _⟩ := h.ex
  refine ⟨rfl, ?_⟩
  unfold t_Machine_states
  walk_at "st"
  exact ⟨m, _, dx, _, _, rfl, a1, T.c_Machine, T.n_Machine_many, lk_many _ _, q⟩
theorem mch_last_ok {P : Program} {mg : Str → Option Value} (T : Txt P K mg) {m : Addr} {fp : List Addr} {n : Int} {fin : List Int} {es : List Ed} {fs : List (Int × Int)} {H : Hp} {Q : VK} {E : XK} (h : MchAt K H m fp n fin es fs) (q : ∀ D H', Same H H' → H D = none → H' D = some (.lst (fin.map V.int)) → Q (.ref D) H') : sp_Machine_last K [.ref m] H Q E := by
  obtain ⟨dx, F, A, L, O, W, us, vs, ov, ts, ow, a1, a2, _⟩ := h.ex
  refine ⟨rfl, ?_⟩
  unfold t_Machine_last
  walk_at "st"
  refine ⟨m, _, dx, _, _, rfl, a1, T.c_Machine, T.n_Machine_finals, lk_finals _ _ _, ?_⟩
  walk_at "st"
  exact ⟨F, _, rfl, .inl (.of a2), fun D hD => q D _ (Same.new hD) hD upd_same⟩
theorem mch_edges_ok {P : Program} {mg : Str → Option Value} (T : Txt P K mg) {m : Addr} {fp : List Addr} {n : Int} {fin : List Int} {es : List Ed} {fs : List (Int × Int)} {H : Hp} {Q : List V → Hp → Prop} {E : XK} (h : MchAt K H m fp n fin es fs) (z : es.length ≤ 100) (q : ∀ us, keysU us = es.map kE → (∀ m ∈ us, H m.1 = some (.tup (m.2.map kV))) → Q (us.map fun m => V.ref m.1) H) : sp_Machine_edges K [.ref m] H Q E := by
  obtain ⟨dx, F, A, L, O, W, us, vs, ov, ts, ow, a1, a2, a3, _⟩ := h.ex
  refine ⟨rfl, ?_⟩
  unfold t_Machine_edges
  walk_at "st"
  refine ⟨m, _, dx, _, _, rfl, a1, T.c_Machine, T.n_Machine_arcs, lk_arcs _ _ _ _, ?_⟩
  have ul := len_keys a3.k
  refine ⟨A, rfl, ⟨_, .of a3.t.l⟩, ?_⟩
  refine gfor_it (walk_list (K := K) (a := A) (xs := us.map fun m => V.ref m.1)) (fun i ys σ H2 => (∃ v, σ = [some (.ref m), v]) ∧ H2 = H ∧ ys = (us.take i).map fun m => V.ref m.1) ⟨⟨none, rfl⟩, rfl, by rw [List.take_zero]; rfl⟩ (fun i ys σ H2 _ q => by rw [q.2.1]; exact .of a3.t.l) ?_ ?_
  · rintro i x ys σ H2 H3 hi ⟨⟨v, rfl⟩, rfl, rfl⟩ ⟨rfl, hx⟩
    rw [List.length_map] at hi
    rw [List.getElem?_map, List.getElem?_eq_getElem hi] at hx
    cases hx
    walk_at "st"
    refine ⟨by rw [List.length_map, sizeLine_eq]; have := List.length_take_le i us; omega, ?_⟩
    walk_at "st"
    refine ⟨⟨_, rfl⟩, rfl, ?_⟩
    rw [List.take_succ_eq_append_getElem hi, List.map_append]
    rfl
  · rintro ys σ H2 ⟨⟨v, rfl⟩, rfl, rfl⟩
    rw [List.length_map, List.take_length]
    walk_at "st"
    exact q us a3.k a3.t.t
theorem mch_free_ok {P : Program} {mg : Str → Option Value} (T : Txt P K mg) {m : Addr} {fp : List Addr} {n : Int} {fin : List Int} {es : List Ed} {fs : List (Int × Int)} {H : Hp} {Q : List V → Hp → Prop} {E : XK} (h : MchAt K H m fp n fin es fs) (z : fs.length ≤ 100) (q : ∀ us, keysU us = fs.map kP → (∀ m ∈ us, H m.1 = some (.tup (m.2.map kV))) → Q (us.map fun m => V.ref m.1) H) : sp_Machine_free K [.ref m] H Q E := by
  obtain ⟨dx, F, A, L, O, W, vs, us, ov, ts, ow, a1, a2, _, a3, _⟩ := h.ex
  refine ⟨rfl, ?_⟩
  unfold t_Machine_free
  walk_at "st"
  refine ⟨m, _, dx, _, _, rfl, a1, T.c_Machine, T.n_Machine_leads, lk_leads _ _ _ _ _, ?_⟩
  have ul := len_keys a3.k
  refine ⟨L, rfl, ⟨_, .of a3.t.l⟩, ?_⟩
  refine gfor_it (walk_list (K := K) (a := L) (xs := us.map fun m => V.ref m.1)) (fun i ys σ H2 => (∃ v, σ = [some (.ref m), v]) ∧ H2 = H ∧ ys = (us.take i).map fun m => V.ref m.1) ⟨⟨none, rfl⟩, rfl, by rw [List.take_zero]; rfl⟩ (fun i ys σ H2 _ q => by rw [q.2.1]; exact .of a3.t.l) ?_ ?_
  · rintro i x ys σ H2 H3 hi ⟨⟨v, rfl⟩, rfl, rfl⟩ ⟨rfl, hx⟩
    rw [List.length_map] at hi
    rw [List.getElem?_map, List.getElem?_eq_getElem hi] at hx
    cases hx
    walk_at "st"
    refine ⟨by rw [List.length_map, sizeLine_eq]; have := List.length_take_le i us; omega, ?_⟩
    walk_at "st"
    refine ⟨⟨_, rfl⟩, rfl, ?_⟩
    rw [List.take_succ_eq_append_getElem hi, List.map_append]
    rfl
  · rintro ys σ H2 ⟨⟨v, rfl⟩, rfl, rfl⟩
    rw [List.length_map, List.take_length]
    walk_at "st"
    exact q us a3.k a3.t.t
/-! tuples as data: equal, contained, sorted; _law_unique -/
instance decMemU (k : Ks) (l : List Ks) : Decidable (k ∈ l) := @List.instDecidableMemOfLawfulBEq Ks (@instBEqOfDecidableEq Ks inferInstance) inferInstance k l
def OkK (k : Ks) : Prop := ∀ x ∈ k, PyData.canLay0 (SetX.kD x) = true
theorem dp_keys {H : Hp} : ∀ k : Ks, DpAll K H (k.map kV) (k.map SetX.kD)
  | [] => .nil
  | .inl i :: r => .cons (.int i) (dp_keys r)
  | .inr x :: r => .cons (.str x) (dp_keys r)
theorem dp_tup {H : Hp} {u : Addr} {k : Ks} (e : H u = some (.tup (k.map kV))) : Dp K H (.ref u) (dU k) := .tup (SqT.of e) (dp_keys k)
theorem dp_tups {H : Hp} : ∀ {ms : List MU}, (∀ m ∈ ms, H m.1 = some (.tup (m.2.map kV))) → DpAll K H (ms.map fun m => V.ref m.1) ((keysU ms).map dU)
  | [], _ => .nil
  | m :: r, h => .cons (dp_tup (h m List.mem_cons_self)) (dp_tups fun x hx => h x (List.mem_cons_of_mem _ hx))
theorem lay_keys : ∀ {k : Ks}, OkK k → PyData.canLayAll0 (k.map SetX.kD) = true
  | [], _ => by simp [PyData.canLayAll0]
  | x :: r, h => by simp [PyData.canLayAll0, h x List.mem_cons_self, lay_keys (k := r) fun y hy => h y (List.mem_cons_of_mem _ hy)]
theorem dep_keys : ∀ k : Ks, PyData.depthAll (k.map SetX.kD) = 0
  | [] => rfl
  | .inl i :: r => by simp [SetX.kD, PyData.depthAll, PyData.depth, dep_keys r]
  | .inr i :: r => by simp [SetX.kD, PyData.depthAll, PyData.depth, dep_keys r]
theorem lay_tups : ∀ {ks : List Ks}, (∀ k ∈ ks, OkK k) → PyData.canLayAll0 (ks.map dU) = true
  | [], _ => by simp [PyData.canLayAll0]
  | k :: r, h => by simp [PyData.canLayAll0, dU, PyData.canLay0, lay_keys (h k List.mem_cons_self)]; exact lay_tups fun x hx => h x (List.mem_cons_of_mem _ hx)
theorem dep_tups : ∀ ks : List Ks, PyData.depthAll (ks.map dU) ≤ 1
  | [] => by simp [PyData.depthAll]
  | k :: r => by
    have := dep_tups r
    simp [PyData.depthAll, dU, PyData.depth, dep_keys k]
    omega
theorem shaped_tup {k : Ks} (h : OkK k) : SeqAt.shaped (dU k) = true := by
  simp [SeqAt.shaped, dU, PyData.canLay0, lay_keys h, PyData.depth, dep_keys]
theorem shaped_tups {ks : List Ks} (h : ∀ k ∈ ks, OkK k) : SeqAt.shaped (.list (ks.map dU)) = true := by
  have := dep_tups ks
  simp [SeqAt.shaped, PyData.canLay0, lay_tups h, PyData.depth]
  omega
theorem eqv_leaf (x y : Key) : PyData.eqv (SetX.kD x) (SetX.kD y) = decide (x = y) := by
  cases x <;> cases y
  · rename_i i j; by_cases q : i = j <;> simp [SetX.kD, PyData.eqv, q]
  · simp [SetX.kD, PyData.eqv]
  · simp [SetX.kD, PyData.eqv]
  · rename_i i j; by_cases q : i = j <;> simp [SetX.kD, PyData.eqv, q]
theorem eqv_keys : ∀ a b : Ks, PyData.eqvAll (a.map SetX.kD) (b.map SetX.kD) = decide (a = b)
  | [], [] => by simp [PyData.eqvAll]
  | [], _ :: _ => by simp [PyData.eqvAll]
  | _ :: _, [] => by simp [PyData.eqvAll]
  | x :: a, y :: b => by
    rw [List.map_cons, List.map_cons, PyData.eqvAll, eqv_leaf, eqv_keys a b]
    by_cases h1 : x = y <;> by_cases h2 : a = b <;> simp [h1, h2]
theorem eqv_tup (a b : Ks) : PyData.eqv (dU a) (dU b) = decide (a = b) := by
  unfold dU
  rw [PyData.eqv]
  exact eqv_keys a b
theorem eqv_tups : ∀ a b : List Ks, PyData.eqvAll (a.map dU) (b.map dU) = decide (a = b)
  | [], [] => by simp [PyData.eqvAll]
  | [], _ :: _ => by simp [PyData.eqvAll]
  | _ :: _, [] => by simp [PyData.eqvAll]
  | x :: a, y :: b => by
    rw [List.map_cons, List.map_cons, PyData.eqvAll, eqv_tup, eqv_tups a b]
    by_cases h1 : x = y <;> by_cases h2 : a = b <;> simp [h1, h2]
theorem eqv_tupl (a b : List Ks) : PyData.eqv (.list (a.map dU)) (.list (b.map dU)) = decide (a = b) := by
  rw [PyData.eqv]
  exact eqv_tups a b
theorem any_tup (q : Ks) : ∀ qs : List Ks, ((qs.map dU).any fun z => PyData.eqv z (dU q)) = decide (q ∈ qs)
  | [] => by simp
  | a :: r => by
    rw [List.map_cons, List.any_cons, any_tup q r, eqv_tup]
    by_cases h : a = q
    · subst h; simp
    · have : q ≠ a := fun e => h e.symm
      simp [h, this]
theorem notInU {H : Hp} {u F : Addr} {k : Ks} {us : List MU} {Q : VK} (hu : H u = some (.tup (k.map kV))) (hF : TsAt H F us) (ok : OkK k) (oks : ∀ j ∈ keysU us, OkK j) (h : Q (.bl (!decide (k ∈ keysU us))) H) : rNotInD K (.ref u) (.ref F) H Q :=
  ⟨dU k, (keysU us).map dU, dp_tup hu, .lst (SqL.of hF.l) (dp_tups hF.t), shaped_tup ok, shaped_tups oks, by rw [any_tup]; exact h⟩
theorem neA_tups {H : Hp} {p q : Addr} {us vs : List MU} {Q : VK} (hp : TsAt H p us) (hq : TsAt H q vs) (o1 : ∀ j ∈ keysU us, OkK j) (o2 : ∀ j ∈ keysU vs, OkK j) (h : Q (.bl (!decide (keysU us = keysU vs))) H) : rNeA K (.ref p) (.ref q) H Q :=
  neA_data (.lst (SqL.of hp.l) (dp_tups hp.t)) (.lst (SqL.of hq.l) (dp_tups hq.t)) (shaped_tups o1) (shaped_tups o2) (eqv_tupl _ _) h
theorem eqA_tups {H : Hp} {p q : Addr} {us vs : List MU} {Q : VK} (hp : TsAt H p us) (hq : TsAt H q vs) (o1 : ∀ j ∈ keysU us, OkK j) (o2 : ∀ j ∈ keysU vs, OkK j) (h : Q (.bl (decide (keysU us = keysU vs))) H) : rEqA K (.ref p) (.ref q) H Q :=
  eqA_data (.lst (SqL.of hp.l) (dp_tups hp.t)) (.lst (SqL.of hq.l) (dp_tups hq.t)) (shaped_tups o1) (shaped_tups o2) (eqv_tupl _ _) h
/-- sorted(..) of tuples of one form -/
theorem sorted_tupsU {D : Addr} {ms : List MU} {sh : List Bool} {H : Hp} {Q : VK} (hD : TsAt H D ms) (hs : ∀ m ∈ ms, shK m.2 = sh) (h0 : sh ≠ []) (h : ∀ p, H p = none → Q (.ref p) (upd H p (.lst ((srtU ms).map fun m => V.ref m.1)))) : rSortedD K [.ref D] H Q := by
  have cb := cmp_tups hs h0
  refine ⟨D, ms.map fun m => (V.ref m.1, dU m.2), rfl, .of ?_, fun z hz => ?_, fun d hd d' hd' => ?_, ?_, fun z hz => ?_, fun p hp => ?_⟩
  · rw [hD.l, List.map_map]; rfl
  · obtain ⟨x, hx, rfl⟩ := List.mem_map.mp hz
    exact dp_tup (hD.t x hx)
  · rw [List.map_map] at hd hd'
    exact cb.al d hd d' hd'
  · have := cb.so
    rw [List.map_map]
    exact this
  · obtain ⟨x, hx, rfl⟩ := List.mem_map.mp hz
    show (dU x.2).depth ≤ 8
    simp [dU, PyData.depth, dep_keys]
  · have e1 : srtD (ms.map fun m => ((V.ref m.1 : V), dU m.2)) = (srtU ms).map fun m => ((V.ref m.1 : V), dU m.2) :=
      (PySem.W.sort_maps (fun m : MU => ((V.ref m.1 : V), dU m.2)) (fun _ _ _ _ => rfl)).symm
    rw [e1, List.map_map]
    exact h p hp
theorem unique_ok {l : Addr} {ms : List MU} {sh : List Bool} {H : Hp} {Q : VK} {E : XK} (hl : TsAt H l ms) (hs : ∀ m ∈ ms, shK m.2 = sh) (h0 : sh ≠ []) (ok : ∀ k ∈ keysU ms, OkK k) (z : ms.length ≤ 1000)
    (h : ∀ H' p us, Same H H' → H p = none → TsAt H' p us → UpU (keysU us) → (∀ k, k ∈ keysU us ↔ k ∈ keysU ms) → Q (.ref p) H') : sp_law_unique K [.ref l] H Q E := by
  refine ⟨rfl, ?_⟩
  unfold t_law_unique
  walk_at "sq"
  walk_at "st"
  intro F hF
  have sF := Same.new (o := .lst []) hF
  walk_at "st"
  walk_at "sq"
  walk_at "st"
  refine sorted_tupsU (hl.same sF) hs h0 fun p hp => ?_
  have sp := Same.new (o := .lst ((srtU ms).map fun m => V.ref m.1)) hp
  refine ⟨p, rfl, ⟨_, .of upd_same⟩, ?_⟩
  have pm : (srtU ms).Perm ms := List.mergeSort_perm _ _
  have tot : PySem.W.TotalLe (PySem.W.dataLe false SetX.datU) := PySem.W.sortLe_total _ _ _
  have pw : (srtU ms).Pairwise fun a b => PySem.W.dataLe false SetX.datU a b = true := PySem.W.sort_pairwise tot ms
  have hS : TsAt (upd (upd H F (.lst [])) p (.lst ((srtU ms).map fun m => V.ref m.1))) p (srtU ms) := ⟨upd_same, fun m hm => sp _ _ (sF _ _ (hl.t m (pm.mem_iff.mp hm)))⟩
  have eF : upd (upd H F (.lst [])) p (.lst ((srtU ms).map fun m => V.ref m.1)) F = some (.lst []) := sp _ _ upd_same
  have s0 := sF.trans sp
  have len : (srtU ms).length = ms.length := pm.length_eq
  have npF : p ≠ F := fun e => by rw [e, upd_same] at hp; cases hp
  generalize upd (upd H F (.lst [])) p (.lst ((srtU ms).map fun m => V.ref m.1)) = H0 at hS eF s0 ⊢
  have mS : ∀ m, m ∈ srtU ms ↔ m ∈ ms := fun m => pm.mem_iff
  generalize srtU ms = S at hS pw len mS ⊢
  clear sp hp sF
  refine for_list (K := K) (a := p) (xs := S.map fun m => V.ref m.1) (fun i σ H2 => (∃ v, σ = [some (.ref l), some (.ref F), v]) ∧ (∀ b o, b ≠ F → H0 b = some o → H2 b = some o) ∧ ∃ us : List MU, TsAt H2 F us ∧ UpU (keysU us) ∧ (∀ k, k ∈ keysU us ↔ k ∈ keysU (S.take i)) ∧ us.length ≤ i)
    ⟨⟨none, rfl⟩, fun _ _ _ e => e, [], ⟨eF, fun _ z => (nomatch z)⟩, List.Pairwise.nil, fun k => by rw [List.take_zero], Nat.le_refl _⟩ (fun i σ H2 _ q => .of (q.2.1 _ _ npF hS.l)) ?_ ?_
  · rintro i x σ H2 hi ⟨⟨v, rfl⟩, k2, us, hU, up, mem, le⟩
    rw [List.getElem?_map] at hi
    have hi2 : i < S.length := by
      cases e : S[i]? with
      | none => rw [e] at hi; cases hi
      | some c => exact (List.getElem?_eq_some_iff.mp e).1
    rw [List.getElem?_eq_getElem hi2] at hi
    cases hi
    have etk : S.take (i + 1) = S.take i ++ [S[i]] := List.take_succ_eq_append_getElem hi2
    have inS : S[i] ∈ S := List.getElem_mem hi2
    have before : ∀ m ∈ S.take i, ltU S[i].2 m.2 = false := fun m hm => by
      obtain ⟨j, hj, ej⟩ := List.mem_iff_getElem.mp hm
      rw [List.length_take] at hj
      rw [List.getElem_take] at ej
      have q := List.pairwise_iff_getElem.mp pw j i (by omega) hi2 (by omega)
      have q : (!PySem.W.dataLt (SetX.datU S[i]) (SetX.datU S[j])) = true := q
      rw [← ej]
      exact Bool.eq_false_iff.mpr fun z => by rw [show PySem.W.dataLt (SetX.datU S[i]) (SetX.datU S[j]) = true from z] at q; cases q
    generalize S[i] = m at etk inS before
    have em : H2 m.1 = some (.tup (m.2.map kV)) := k2 _ _ (fun z => by have := hS.t m inS; rw [z, eF] at this; cases this) (hS.t m inS)
    have okm : OkK m.2 := ok _ (mem_keysU.mpr ⟨m.1, (mS m).mp inS⟩)
    have shm := hs m ((mS m).mp inS)
    have keyS : ∀ k, k ∈ keysU (S.take i) → ∃ m' ∈ S.take i, m'.2 = k := fun k hk => by
      obtain ⟨u, hu⟩ := mem_keysU.mp hk
      exact ⟨_, hu, rfl⟩
    walk_at "st"
    refine notInU em hU okm (fun j hj => ?_) ?_
    · obtain ⟨m', h', e⟩ := keyS j ((mem j).mp hj)
      exact ok _ (mem_keysU.mpr ⟨m'.1, by rw [← e]; exact (mS m').mp (List.mem_of_mem_take h')⟩)
    have tk : ∀ k, k ∈ keysU (S.take (i + 1)) ↔ k ∈ keysU (S.take i) ∨ k = m.2 := fun k => by
      rw [etk]
      unfold keysU
      rw [List.map_append, List.mem_append, List.map_singleton, List.mem_singleton]
    walk_at "st"
    by_cases c : m.2 ∈ keysU us
    · refine rd_iteC (by rw [decide_eq_true c]; rfl) ?_
      walk_at "st"
      refine ⟨⟨_, rfl⟩, k2, us, hU, up, fun k => ?_, by omega⟩
      rw [tk, mem]
      exact ⟨.inl, fun w => w.elim id fun e => by rw [e]; exact (mem _).mp c⟩
    · refine rd_iteB (by rw [decide_eq_false c]; rfl) ?_
      walk_at "st"
      refine ⟨tyL hU.l, ?_⟩
      walk_at "st"
      refine append_go hU.l (by rw [List.length_map]; omega) ?_
      walk_at "st"
      have nF : ∀ u xs, H2 u = some (.tup xs) → u ≠ F := fun u xs e w => by rw [w, hU.l] at e; cases e
      refine ⟨⟨_, rfl⟩, fun b o nb e => by rw [upd_ne nb]; exact k2 b o nb e, us ++ [m], ⟨by rw [upd_same, List.map_append]; rfl, fun x hx => ?_⟩, ?_, fun k => ?_, by rw [List.length_append, List.length_singleton]; omega⟩
      · rcases List.mem_append.mp hx with w | w
        · rw [upd_ne (nF _ _ (hU.t x w))]; exact hU.t x w
        · rw [List.mem_singleton.mp w, upd_ne (nF _ _ em)]; exact em
      · unfold keysU
        rw [List.map_append]
        refine List.pairwise_append.mpr ⟨up, by simp, fun a ha b hb => ?_⟩
        rw [show b = m.2 by simpa using hb]
        obtain ⟨m', h', e⟩ := keyS a ((mem a).mp ha)
        have lt := before m' h'
        rw [e] at lt
        cases e2 : ltU a m.2 with
        | true => rfl
        | false =>
          exfalso
          have sa : shK a = sh := by rw [← e]; exact hs _ ((mS m').mp (List.mem_of_mem_take h'))
          exact c (by rw [← ltU_conn (sa.trans shm.symm) e2 lt]; exact ha)
      · rw [tk, ← mem]
        unfold keysU
        rw [List.map_append, List.mem_append, List.map_singleton, List.mem_singleton]
  · rintro σ H2 ⟨⟨v, rfl⟩, k2, us, hU, up, mem, le⟩
    rw [List.length_map, List.take_length] at mem
    have fF : H F = none := by
      cases w : H F with
      | none => rfl
      | some o => rw [hF] at w; cases w
    walk_at "st"
    refine h H2 F us (fun b o e => k2 b o (ne_of_none e fF) (s0 b o e)) fF hU up fun k => (mem k).trans ?_
    rw [mem_keysU, mem_keysU]
    exact ⟨fun ⟨u, hu⟩ => ⟨u, (mS _).mp hu⟩, fun ⟨u, hu⟩ => ⟨u, (mS _).mpr hu⟩⟩
/-! _law_fine -/
theorem fm_if {α β : Type} (l : List α) (p : α → Bool) (f : α → β) : (l.map fun a => if p a = true then some (f a) else none).filterMap id = (l.filter p).map f := by
  induction l with
  | nil => rfl
  | cons a r ih =>
    rw [List.map_cons, List.filterMap_cons]
    by_cases h : p a = true
    · rw [if_pos h, List.filter_cons_of_pos h, List.map_cons, ← ih]
      rfl
    · rw [if_neg h, List.filter_cons_of_neg h, ← ih]
      rfl
theorem nl_edges (n : Int) (F A L O W : Addr) : (mF n F A L O W).lookup ("edges" : Str) = none := by
  have e1 : (("edges" : Str) == "many") = false := by decide +kernel
  have e2 : (("edges" : Str) == "finals") = false := by decide +kernel
  have e3 : (("edges" : Str) == "arcs") = false := by decide +kernel
  have e4 : (("edges" : Str) == "leads") = false := by decide +kernel
  have e5 : (("edges" : Str) == "outs") = false := by decide +kernel
  have e6 : (("edges" : Str) == "onward") = false := by decide +kernel
  simp [mF, List.lookup, e1, e2, e3, e4, e5, e6]
theorem nl_free (n : Int) (F A L O W : Addr) : (mF n F A L O W).lookup ("free" : Str) = none := by
  have e1 : (("free" : Str) == "many") = false := by decide +kernel
  have e2 : (("free" : Str) == "finals") = false := by decide +kernel
  have e3 : (("free" : Str) == "arcs") = false := by decide +kernel
  have e4 : (("free" : Str) == "leads") = false := by decide +kernel
  have e5 : (("free" : Str) == "outs") = false := by decide +kernel
  have e6 : (("free" : Str) == "onward") = false := by decide +kernel
  simp [mF, List.lookup, e1, e2, e3, e4, e5, e6]
theorem MchAt.ins {K : Frg} {H : Hp} {m : Addr} {fp : List Addr} {n : Int} {fin : List Int} {es : List Ed} {fs : List (Int × Int)} (h : MchAt K H m fp n fin es fs) : ∃ dx F A L O W, H m = some (.ins (He.ga K "Machine") dx (mF n F A L O W)) :=
  let ⟨dx, F, A, L, O, W, _, _, _, _, _, a1, _⟩ := h.ex
  ⟨dx, F, A, L, O, W, a1⟩
def pne (k : Ks) : Bool := match k with
  | [a, b] => !decide (a = b)
  | _ => false
theorem pne_kP (q : Int × Int) : pne (kP q) = decide (q.1 ≠ q.2) := by
  unfold pne kP
  by_cases h : q.1 = q.2 <;> simp [h]
theorem neq_keys {vs : List MU} {fs : List (Int × Int)} (h : keysU vs = fs.map kP) : keysU (vs.filter fun m => pne m.2) = (fs.filter fun q => decide (q.1 ≠ q.2)).map kP := by
  have e1 : keysU (vs.filter fun m => pne m.2) = (keysU vs).filter pne := by
    unfold keysU
    rw [List.filter_map]
    rfl
  rw [e1, h, List.filter_map]
  congr 1
  exact congrArg (fun f => fs.filter f) (funext fun q => pne_kP q)
theorem okU {α : Type} {f : α → Ks} {ms : List MU} {l : List α} (h : keysU ms = l.map f) (hf : ∀ a ∈ l, OkK (f a)) : ∀ k ∈ keysU ms, OkK k := fun k hk => by
  rw [h] at hk
  obtain ⟨a, ha, e⟩ := List.mem_map.mp hk
  rw [← e]
  exact hf a ha
theorem okP (q : Int × Int) : OkK (kP q) := fun x hx => by
  simp [kP] at hx
  rcases hx with e | e <;> rw [e] <;> simp [SetX.kD, PyData.canLay0]
/-- what the law's lists and the machine have in common -/
structure Same3 (fin last : List Int) (es' es : List Ed) (fs' fs : List (Int × Int)) : Prop where
  f : fin = last
  ue : UpU (es'.map kE)
  me : ∀ e, e ∈ es' ↔ e ∈ es
  uf : UpU (fs'.map kP)
  mf : ∀ q, q ∈ fs' ↔ q ∈ fs ∧ q.1 ≠ q.2
  le : es'.length ≤ 60
  lf : fs'.length ≤ 60
theorem fine_ok {P : Program} {mg : Str → Option Value} (T : Txt P K mg) {m La Ea Fa : Addr} {fp : List Addr} {n : Int} {fin last : List Int} {es' es : List Ed} {fs' fs : List (Int × Int)} {us vs : List MU} {H : Hp} {Q : VK} {E : XK} (hm : MchAt K H m fp n fin es' fs') (hla : H La = some (.lst (last.map V.int))) (he : TEd H Ea us es) (hf : TPr H Fa vs fs)
    (c : Same3 fin last es' es fs' fs) (ok : ∀ e ∈ es, OkK (kE e)) (z2 : es.length ≤ 60) (z3 : fs.length ≤ 60) (zl : last.length ≤ 60) (h : ∀ H', Same H H' → Q (.bl true) H') : sp_law_fine K [.ref m, .int n, .ref La, .ref Ea, .ref Fa] H Q E := by
  refine ⟨rfl, ?_⟩
  unfold t_law_fine
  have ok' : ∀ e ∈ es', OkK (kE e) := fun e he => ok e ((c.me e).mp he)
  walk_at "sq"
  walk_at "st"
  obtain ⟨dx, F, A, L, O, W, em⟩ := hm.ins
  refine ⟨m, dx, _, rfl, em, mch_last_ok T hm fun D H1 s1 fD eD => ?_⟩
  have hm1 := hm.same s1
  have em1 := s1 _ _ em
  walk_at "st"
  walk_at "sq"
  walk_at "st"
  refine ⟨m, dx, _, rfl, em1, mch_states_ok T hm1 ?_⟩
  walk_at "st"
  refine is_int_ok ?_
  walk_at "st"
  refine ⟨m, dx, _, rfl, em1, mch_states_ok T hm1 ?_⟩
  walk_at "st"
  refine isi_go (.ty _) (.base (.lst eD)) (kit_ty (r := true) (by decide +kernel)) ?_
  refine ⟨_, rfl, ?_⟩
  walk_at "st"
  refine neA_data (.lst (SqL.of eD) (intsData fin)) (.lst (SqL.of (s1 _ _ hla)) (intsData last)) (shaped_ints fin) (shaped_ints last) (b := true) (by rw [c.f]; exact eqv_ints last) ?_
  walk_at "st"
  walk_at "sq"
  walk_at "st"
  refine ⟨m, dx, _, rfl, em1, nl_edges _ _ _ _ _ _, ?_⟩
  walk_at "st"
  refine mch_edges_ok T hm1 (by have := c.le; omega) fun ue kue tue => ?_
  intro p hp
  have sp := Same.new (o := .lst (ue.map fun m => V.ref m.1)) hp
  have eE : TEd (upd H1 p (.lst (ue.map fun m => V.ref m.1))) p ue es' := ⟨⟨upd_same, fun x hx => sp _ _ (tue x hx)⟩, kue⟩
  have s02 := s1.trans sp
  have eD2 := sp _ _ eD
  clear tue hp
  generalize upd H1 p (.lst (ue.map fun m => V.ref m.1)) = H2 at sp eE s02 eD2 ⊢
  walk_at "st"
  walk_at "sq"
  walk_at "st"
  refine unique_ok (sh := [true, false, true, true]) ((he.t).same s02) (sh_all (f := kE) (fun _ => rfl) he.k) (by simp) (okU he.k ok) (by rw [len_keys he.k]; omega) fun H3 p3 us3 s3 _ t3 up3 mem3 => ?_
  have s03 := s02.trans s3
  have eE3 : TEd H3 p ue es' := ⟨eE.t.same s3, kue⟩
  have eq1 : keysU ue = keysU us3 := by
    refine UpU.uniq (by rw [kue]; exact c.ue) up3 fun k => ?_
    rw [mem3, kue, he.k, List.mem_map, List.mem_map]
    exact ⟨fun ⟨e, a, b⟩ => ⟨e, (c.me e).mp a, b⟩, fun ⟨e, a, b⟩ => ⟨e, (c.me e).mpr a, b⟩⟩
  walk_at "st"
  refine neA_tups eE3.t t3 (okU kue ok') (by rw [← eq1]; exact okU kue ok') ?_
  rw [decide_eq_true eq1]
  walk_at "st"
  refine ⟨m, dx, _, rfl, s03 _ _ em, nl_free _ _ _ _ _ _, ?_⟩
  walk_at "st"
  refine mch_free_ok T (hm.same s03) (by have := c.lf; omega) fun uf kuf tuf => ?_
  intro p4 hp4
  have sp4 := Same.new (o := .lst (uf.map fun m => V.ref m.1)) hp4
  have eF4 : TPr (upd H3 p4 (.lst (uf.map fun m => V.ref m.1))) p4 uf fs' := ⟨⟨upd_same, fun x hx => sp4 _ _ (tuf x hx)⟩, kuf⟩
  have s04 := s03.trans sp4
  have s34 := sp4
  clear tuf hp4
  generalize upd H3 p4 (.lst (uf.map fun m => V.ref m.1)) = H4 at sp4 eF4 s04 s34 ⊢
  walk_at "st"
  have hf4 : TPr H4 Fa vs fs := ⟨hf.t.same s04, hf.k⟩
  have vl := len_keys hf.k
  refine ⟨Fa, rfl, ⟨_, .of hf4.t.l⟩, fun D5 hD5 => ?_⟩
  refine lcA (walk_list (K := K) (a := Fa) (xs := vs.map fun m => V.ref m.1)) (vs.map fun m => if pne m.2 = true then some (.inl (V.ref m.1)) else none) hD5 (fun H6 s6 => .of (s6 _ _ hf4.t.l)) (by rw [List.length_map, List.length_map]) (by rw [List.length_map]; omega) ?_ ?_
  · rintro i x ob H6 H7 C hi s6 ⟨rfl, hx⟩ hb hC
    obtain ⟨u, q, rfl, hu, hq⟩ := get_keys hf.k hx
    rw [List.getElem?_map, hu] at hb
    have hb : ob = if pne (kP q) = true then some (Sum.inl (V.ref u) : V ⊕ List V) else none := (Option.some.inj hb).symm
    rw [pne_kP] at hb
    obtain ⟨a, b⟩ := q
    have eu : H7 u = some (.tup [V.int a, V.int b]) := s6 _ _ (hf4.t.t _ (List.mem_of_getElem? hu))
    walk_at "st"
    refine ⟨rfl, ?_⟩
    walk_at "st"
    refine ixA_tup (.of eu) ix0 ?_
    walk_at "st"
    refine ixA_tup (.of eu) ix1 ?_
    walk_at "st"
    by_cases ne : a = b
    · refine rd_iteC (by rw [decide_eq_true ne]; rfl) ?_
      rw [decide_eq_false (by simp [ne])] at hb
      subst hb
      exact hC _ none (Same.refl _) rfl
    · refine rd_iteB (by rw [decide_eq_false ne]; rfl) ?_
      rw [decide_eq_true (show (a, b).1 ≠ (a, b).2 from ne)] at hb
      subst hb
      walk_at "st"
      exact hC _ _ (Same.refl _) ⟨_, rfl, rfl⟩
  rintro H6 ys s6 eD6 it
  rw [fm_if vs (fun m => pne m.2) fun m => (Sum.inl (V.ref m.1) : V ⊕ List V)] at it
  have ey : ys = (vs.filter fun m => pne m.2).map fun m => V.ref m.1 := by
    have e : ((vs.filter fun m => pne m.2).map fun m => (Sum.inl (V.ref m.1) : V ⊕ List V)) = ((vs.filter fun m => pne m.2).map fun m => V.ref m.1).map Sum.inl := by rw [List.map_map]; rfl
    rw [e] at it
    exact items_v it
  subst ey
  have kvf := neq_keys hf.k
  have tD : TsAt H6 D5 (vs.filter fun m => pne m.2) := ⟨eD6, fun x hx => s6 _ _ (hf4.t.t x (List.mem_filter.mp hx).1)⟩
  generalize (vs.filter fun m => pne m.2) = vf at tD kvf it eD6
  have vfl : vf.length ≤ 60 := by
    rw [len_keys kvf]
    exact Nat.le_trans (List.length_filter_le _ _) z3
  walk_at "st"
  refine unique_ok (sh := [true, true]) tD (sh_all (f := kP) (fun _ => rfl) kvf) (by simp) (okU kvf fun _ _ => okP _) (by omega) fun H7 p7 us7 s7 _ t7 up7 mem7 => ?_
  have eq2 : keysU uf = keysU us7 := by
    refine UpU.uniq (by rw [kuf]; exact c.uf) up7 fun k => ?_
    rw [mem7, kuf, kvf, List.mem_map, List.mem_map]
    exact ⟨fun ⟨e, a, b⟩ => ⟨e, List.mem_filter.mpr ⟨((c.mf e).mp a).1, decide_eq_true ((c.mf e).mp a).2⟩, b⟩, fun ⟨e, a, b⟩ => ⟨e, (c.mf e).mpr ⟨(List.mem_filter.mp a).1, of_decide_eq_true (List.mem_filter.mp a).2⟩, b⟩⟩
  have s67 := s6.trans s7
  have s07 := s04.trans s67
  walk_at "st"
  refine neA_tups (eF4.t.same s67) t7 (okU kuf fun _ _ => okP _) (by rw [← eq2]; exact okU kuf fun _ _ => okP _) ?_
  rw [decide_eq_true eq2]
  have s37 := sp4.trans s67
  have eE7 : TEd H7 p ue es' := ⟨(eE3.t).same s37, kue⟩
  have eD7 := s37 _ _ (s3 _ _ eD2)
  walk_at "st"
  walk_at "sq"
  walk_at "st"
  refine ⟨p, rfl, ⟨_, .of eE7.t.l⟩, ?_⟩
  refine for_list (K := K) (a := p) (xs := ue.map fun m => V.ref m.1) (fun i σ H8 => H8 = H7 ∧ ∃ v7 v8, σ = [some (.ref m), some (.int n), some (.ref La), some (.ref Ea), some (.ref Fa), some (.ref D), some (.ref p), v7, v8]) ⟨rfl, _, _, rfl⟩ (fun i σ H8 _ q => by rw [q.1]; exact .of eE7.t.l) ?_ ?_
  · rintro i x σ H8 hi ⟨rfl, v7, v8, rfl⟩
    obtain ⟨u, q, rfl, hu, hq⟩ := get_keys kue hi
    obtain ⟨a, s, hh, g⟩ := q
    have eu : H8 u = some (.tup [V.int a, V.str s, V.int hh, V.int g]) := eE7.t.t _ (List.mem_of_getElem? hu)
    walk_at "st"
    refine isi_go (.ty _) (.base (.tup eu)) (kit_ty (r := true) (by decide +kernel)) ?_
    refine ⟨_, rfl, ?_⟩
    walk_at "st"
    refine ixA_tup (.of eu) ix1 ?_
    walk_at "st"
    refine isi_go (.ty _) (.base (.str _)) (kit_ty (r := true) (by decide +kernel)) ?_
    refine ⟨_, rfl, ?_⟩
    walk_at "st"
    refine ixA_tup (.of eu) ix2 ?_
    walk_at "st"
    refine is_int_ok ?_
    walk_at "st"
    exact ⟨rfl, _, _, rfl⟩
  rintro σ H8 ⟨rfl, v7, v8, rfl⟩
  walk_at "sq"
  walk_at "st"
  refine ⟨m, dx, _, rfl, s07 _ _ em, nl_free _ _ _ _ _ _, ?_⟩
  walk_at "st"
  refine mch_free_ok T (hm.same s07) (by have := c.lf; omega) fun uf9 kuf9 tuf9 => ?_
  intro p9 hp9
  have s9 := Same.new (o := .lst (uf9.map fun m => V.ref m.1)) hp9
  have eF9 : TPr (upd H8 p9 (.lst (uf9.map fun m => V.ref m.1))) p9 uf9 fs' := ⟨⟨upd_same, fun x hx => s9 _ _ (tuf9 x hx)⟩, kuf9⟩
  have s09 := s07.trans s9
  have eD9 := s9 _ _ eD7
  generalize upd H8 p9 (.lst (uf9.map fun m => V.ref m.1)) = H9 at s9 eF9 s09 eD9 ⊢
  walk_at "st"
  refine ⟨p9, rfl, ⟨_, .of eF9.t.l⟩, ?_⟩
  refine for_list (K := K) (a := p9) (xs := uf9.map fun m => V.ref m.1) (fun i σ HA => HA = H9 ∧ ∃ v7 v8, σ = [some (.ref m), some (.int n), some (.ref La), some (.ref Ea), some (.ref Fa), some (.ref D), some (.ref p), v7, v8]) ⟨rfl, _, _, rfl⟩ (fun i σ HA _ q => by rw [q.1]; exact .of eF9.t.l) ?_ ?_
  · rintro i x σ HA hi ⟨rfl, v7, v8, rfl⟩
    obtain ⟨u, q, rfl, hu, hq⟩ := get_keys kuf9 hi
    have eu := eF9.t.t _ (List.mem_of_getElem? hu)
    walk_at "st"
    refine isi_go (.ty _) (.base (.tup eu)) (kit_ty (r := true) (by decide +kernel)) ?_
    refine ⟨_, rfl, ?_⟩
    walk_at "st"
    exact ⟨rfl, _, _, rfl⟩
  rintro σ HA ⟨rfl, v7, v8, rfl⟩
  walk_at "sq"
  walk_at "st"
  refine ⟨tyL eD9, ?_⟩
  walk_at "st"
  have fl : fin.length ≤ 60 := by rw [c.f]; exact zl
  refine append_go eD9 (by rw [List.length_map]; omega) ?_
  have sB : Same H (upd HA D (.lst (fin.map V.int ++ [V.int 0]))) := fun b o e => by
    rw [upd_ne (ne_of_none e fD)]
    exact s09 b o e
  generalize upd HA D (.lst (fin.map V.int ++ [V.int 0])) = HB at sB ⊢
  walk_at "st"
  refine ⟨m, dx, _, rfl, sB _ _ em, mch_last_ok T (hm.same sB) fun DC HC sC fC eC => ?_⟩
  walk_at "st"
  refine eqA_data (.lst (SqL.of eC) (intsData fin)) (.lst (SqL.of (sC _ _ (sB _ _ hla))) (intsData last)) (shaped_ints fin) (shaped_ints last) (b := true) (by rw [c.f]; exact eqv_ints last) ?_
  exact h HC (sB.trans sC)
/-! _law_spread, with its order -/
theorem neA_intsNil {K : Frg} {a p : Addr} {ds : List Int} {H : Hp} {Q : VK} (ha : H a = some (.lst (ds.map V.int))) (hp : H p = some (.lst [])) (h : Q (.bl (!ds.isEmpty)) H) : rNeA K (.ref a) (.ref p) H Q :=
  neA_data (.lst (SqL.of ha) (intsData ds)) (nilData hp) (shaped_ints ds) (shaped_ints []) (eqv_nil ds) h
def sortI (is : List Int) : List Int := is.mergeSort (PySem.W.dataLe false PyData.int)
theorem mem_sortI {is : List Int} {x : Int} : x ∈ sortI is ↔ x ∈ is := (List.mergeSort_perm _ _).mem_iff
theorem sorted_ints {D : Addr} {is : List Int} {H : Hp} {Q : VK} (hD : H D = some (.lst (is.map V.int)))
    (h : ∀ p, H p = none → Q (.ref p) (upd H p (.lst ((sortI is).map V.int)))) : rSortedD K [.ref D] H Q := by
  refine ⟨D, is.map fun i => (V.int i, PyData.int i), rfl, .of ?_, fun z hz => ?_, fun d hd d' hd' => ?_, .inr fun d hd => ?_, fun z hz => ?_, fun p hp => ?_⟩
  · rw [hD, List.map_map]; rfl
  · obtain ⟨x, hx, rfl⟩ := List.mem_map.mp hz
    exact .int _
  · rw [List.map_map] at hd hd'
    obtain ⟨x, _, rfl⟩ := List.mem_map.mp hd
    obtain ⟨y, _, rfl⟩ := List.mem_map.mp hd'
    rfl
  · rw [List.map_map] at hd
    obtain ⟨x, _, rfl⟩ := List.mem_map.mp hd
    exact ⟨(fun z => nomatch z), fun _ z => nomatch z⟩
  · obtain ⟨x, hx, rfl⟩ := List.mem_map.mp hz
    exact Nat.zero_le _
  · have e1 : srtD (is.map fun i => ((V.int i : V), PyData.int i)) = (sortI is).map fun i => ((V.int i : V), PyData.int i) :=
      (PySem.W.sort_maps (fun i : Int => ((V.int i : V), PyData.int i)) (fun _ _ _ _ => rfl)).symm
    rw [e1, List.map_map]
    exact h p hp
theorem sortI_up {is : List Int} (nd : is.Nodup) : (sortI is).Pairwise (· < ·) := by
  have pm : (sortI is).Perm is := List.mergeSort_perm _ _
  have tot : PySem.W.TotalLe (PySem.W.dataLe false PyData.int) := PySem.W.sortLe_total _ _ _
  have pw : (sortI is).Pairwise fun a b => PySem.W.dataLe false PyData.int a b = true := PySem.W.sort_pairwise tot is
  refine (List.pairwise_and_iff.mpr ⟨pw, pm.nodup_iff.mpr nd⟩).imp fun {a b} q => ?_
  have q1 : (!PySem.W.dataLt (.int b) (.int a)) = true := q.1
  rw [PySem.W.dataLt_int, Bool.not_eq_true', decide_eq_false_iff_not] at q1
  have := q.2
  omega
/-- the keys of a dict as a list -/
theorem rd_listDk {F : Addr} {kvs : List (Key × V)} {H : Hp} {Q : VK} (hF : H F = some (.dK kvs)) (h : ∀ p, H p = none → Q (.ref p) (upd H p (.lst (kvs.map fun kv => kV kv.1)))) : rListDk [.ref F] H Q := ⟨F, kvs, rfl, .inl hF, h⟩
theorem spread_ok {a d : Addr} {ss : List Int} {ks : List DLE} {H : Hp} {Q : VK} {E : XK} (hS : SqL K H a (ss.map V.int)) (hD : DL H d ks) (hn : ss.length + dlTot ks ≤ 1000000)
    (h : ∀ p H' (fs : List Int), Same H H' → H p = none → H' p = some (.lst (fs.map V.int)) → fs.Pairwise (· < ·) → (∀ i, i ∈ fs ↔ Rch (gr ks) ss i) → Q (.ref p) H') : sp_law_spread K [.ref d, .ref a] H Q E := by
  refine ⟨rfl, ?_⟩
  unfold t_law_spread
  walk_at "sq"
  walk_at "st"
  intro F hF
  walk_at "st"
  walk_at "sq"
  walk_at "st"
  have sF := Same.new (o := .dK []) hF
  refine ⟨a, _, rfl, .inl (sF.seq hS), fun L hL => ?_⟩
  walk_at "st"
  have sL := Same.new (o := .lst (ss.map V.int)) hL
  have FL : F ≠ L := ne_of_none (show upd H F (.dK []) F = some (.dK []) from upd_same) hL
  have HL : H L = none := by rw [upd_ne (Ne.symm FL)] at hL; exact hL
  walk_at "sq"
  refine ⟨fun m σ H2 => ∃ (fs qs : List Int) (v4 : Option V), m = qs.length + phi ks fs ∧ σ = [some (.ref d), some (.ref a), some (.ref F), some (.ref L), v4] ∧ (∀ b o, H b = some o → H2 b = some o) ∧ H2 F = some (.dK (trK fs)) ∧ H2 L = some (.lst (qs.map V.int)) ∧ fs.Nodup ∧ m ≤ 1000000 ∧ fs.length ≤ 1000000 - m ∧
    (∀ i ∈ fs, Rch (gr ks) ss i) ∧ (∀ i ∈ qs, Rch (gr ks) ss i) ∧ (∀ i ∈ ss, i ∈ fs ∨ i ∈ qs) ∧ (∀ i ∈ fs, ∀ y ∈ gr ks i, y ∈ fs ∨ y ∈ qs), ⟨_, [], ss, none, rfl, rfl, fun b o e => sL _ _ (sF _ _ e), ?_, upd_same, List.Pairwise.nil, ?_, ?_, fun _ h => (nomatch h), fun i hi => .s hi, fun i hi => .inr hi, fun _ h => (nomatch h)⟩, ?_⟩
  · rw [upd_ne FL, upd_same]; rfl
  · have := phi_le ks []; omega
  · simp
  rintro m σ H1' ⟨fs, qs, v4, rfl, rfl, k1', eF', eL', nd, mb, fb, r1, r2, c1, c2⟩
  walk_at "st"
  intro N0 hN0
  have sN0 := Same.new (o := .lst []) hN0
  walk_at "st"
  refine neA_intsNil (sN0 _ _ eL') upd_same ?_
  have eF := sN0 _ _ eF'
  have eL := sN0 _ _ eL'
  have k2 : ∀ b o, H b = some o → upd H1' N0 (.lst []) b = some o := fun b o e => sN0 _ _ (k1' b o e)
  generalize upd H1' N0 (.lst []) = H2 at eF eL k2 ⊢
  walk_at "st"
  cases qs with
  | nil =>
    refine rd_iteC rfl ?_
    walk_at "st"
    refine rd_listDk eF fun p hp => ?_
    have sp := Same.new (o := .lst ((trK fs).map fun kv => kV kv.1)) hp
    walk_at "st"
    have ep : upd H2 p (.lst ((trK fs).map fun kv => kV kv.1)) p = some (.lst (fs.map V.int)) := by rw [upd_same]; unfold trK; rw [List.map_map]; rfl
    refine sorted_ints ep fun p2 hp2 => ?_
    have np : H p2 = none := by
      cases w : H p2 with
      | none => rfl
      | some o => rw [sp _ _ (k2 _ _ w)] at hp2; cases hp2
    refine h p2 _ (sortI fs) (fun b o e => ?_) np upd_same (sortI_up nd) fun i => mem_sortI.trans ⟨r1 i, fun z => ?_⟩
    · rw [upd_ne (ne_of_none e np)]
      exact sp _ _ (k2 b o e)
    induction z with
    | s hx => exact (c1 _ hx).elim id fun q => (nomatch q)
    | e hx hy ih => exact (c2 _ ih _ hy).elim id fun q => (nomatch q)
  | cons q0 q1 =>
    obtain ⟨y, ey⟩ : ∃ y, (q0 :: q1) = (q0 :: q1).dropLast ++ [y] := ⟨(q0 :: q1).getLast (by simp), (List.dropLast_concat_getLast (by simp)).symm⟩
    generalize q0 :: q1 = qs at *
    have qne : qs ≠ [] := fun z => by rw [z] at ey; simp at ey
    have elen : qs.length = qs.dropLast.length + 1 := by
      have := congrArg List.length ey
      rw [List.length_append] at this
      exact this
    have ymem : y ∈ qs := by rw [ey]; simp
    refine rd_iteB (by cases qs with | nil => exact absurd rfl qne | cons _ _ => rfl) ?_
    have dsub : ∀ i ∈ qs.dropLast, i ∈ qs := fun i hi => List.dropLast_subset _ hi
    have split : ∀ i ∈ qs, i ∈ qs.dropLast ∨ i = y := fun i hi => by
      rw [ey] at hi
      rcases List.mem_append.mp hi with z | z
      · exact .inl z
      · exact .inr (List.mem_singleton.mp z)
    have mapd : (qs.map V.int).dropLast = qs.dropLast.map V.int := by rw [List.map_dropLast]
    have base : ∀ b o, H b = some o → upd H2 L (.lst ((qs.map V.int).dropLast)) b = some o := fun b o e => by rw [upd_ne (ne_of_none e HL)]; exact k2 _ _ e
    have eF1 : upd H2 L (.lst ((qs.map V.int).dropLast)) F = some (.dK (trK fs)) := by rw [upd_ne FL]; exact eF
    refine ⟨fun σ' H' => ∃ m', m' < qs.length + phi ks fs ∧ (fun m σ H2 => ∃ (fs qs : List Int) (v4 : Option V), m = qs.length + phi ks fs ∧ σ = [some (.ref d), some (.ref a), some (.ref F), some (.ref L), v4] ∧ (∀ b o, H b = some o → H2 b = some o) ∧ H2 F = some (.dK (trK fs)) ∧ H2 L = some (.lst (qs.map V.int)) ∧ fs.Nodup ∧ m ≤ 1000000 ∧ fs.length ≤ 1000000 - m ∧
      (∀ i ∈ fs, Rch (gr ks) ss i) ∧ (∀ i ∈ qs, Rch (gr ks) ss i) ∧ (∀ i ∈ ss, i ∈ fs ∨ i ∈ qs) ∧ (∀ i ∈ fs, ∀ y ∈ gr ks i, y ∈ fs ∨ y ∈ qs)) m' σ' H', fun σ' H' z => z, ?_⟩
    walk_at "sq"
    walk_at "st"
    refine ⟨tyL eL, L, _, .int y, rfl, rfl, eL, ints_last ey, ?_⟩
    walk_at "st"
    refine ⟨F, _, rfl, DGet.k (k := .inl y) eF1, ?_⟩
    refine ⟨_, rfl, ?_⟩
    rw [tr_val]
    refine rd_iteN (fun hy => ?_) (fun hy => ?_)
    · walk_at "sq"
      walk_at "st"
      refine ⟨F, _, rfl, DPut.k (k := .inl y) eF1 (by unfold trK; rw [List.length_map, sizeLine_eq]; omega), ?_⟩
      rw [tr_put hy]
      walk_at "st"
      have e2L : upd (upd H2 L (.lst ((qs.map V.int).dropLast))) F (.dK (trK (fs ++ [y]))) L = some (.lst (qs.dropLast.map V.int)) := by rw [upd_ne (Ne.symm FL), upd_same, mapd]
      have e2F : upd (upd H2 L (.lst ((qs.map V.int).dropLast))) F (.dK (trK (fs ++ [y]))) F = some (.dK (trK (fs ++ [y]))) := upd_same
      have base2 : ∀ b o, H b = some o → upd (upd H2 L (.lst ((qs.map V.int).dropLast))) F (.dK (trK (fs ++ [y]))) b = some o := fun b o e => by rw [upd_ne (ne_of_none e hF)]; exact base b o e
      generalize upd (upd H2 L (.lst ((qs.map V.int).dropLast))) F (.dK (trK (fs ++ [y]))) = H3 at e2L e2F base2 ⊢
      refine ⟨tyL e2L, ?_⟩
      walk_at "st"
      have D3 : DL H3 d ks := hD.keep fun b o _ e => base2 b o e
      refine ⟨d, rfl, .inl ⟨_, .inl D3.dk⟩, ?_⟩
      walk_at "st"
      intro p hp
      have sp := Same.new (o := .lst []) hp
      have pv : ∃ (q : Addr), ((valV (dlK ks) (.inl y)).getD (.ref p)) = .ref q ∧ upd H3 p (.lst []) q = some (.lst ((gr ks y).map V.int)) := by
        rcases dl_val ks y with ⟨z1, z2, _⟩ | ⟨b, l, z0, z1, z2⟩
        · rw [z1, z2]; exact ⟨p, rfl, upd_same⟩
        · rw [z1, z2]; exact ⟨b, rfl, sp _ _ (D3.ls _ z0)⟩
      refine ⟨_, DGet.k (k := .inl y) (sp _ _ D3.dk), ?_⟩
      obtain ⟨q, eq, eQ⟩ := pv
      rw [eq]
      walk_at "st"
      have pa := phi_add ks fs y hD.kd hy
      have b3 : (gr ks y).length ≤ dlTot ks := by
        rcases dl_val ks y with ⟨_, z2, _⟩ | ⟨b, l, z0, _, z2⟩
        · rw [z2]; exact Nat.zero_le _
        · rw [z2]; exact dlTot_len z0
      have nL : ∀ b o, H b = some o → b ≠ L := fun b o e => ne_of_none e HL
      refine ⟨L, q, _, _, rfl, rfl, sp _ _ e2L, eQ, by rw [List.length_map, List.length_map, sizeLine_eq]; omega, ?_⟩
      refine ⟨_, ?_, fs ++ [y], qs.dropLast ++ gr ks y, _, rfl, rfl, fun b o e => ?_, ?_, ?_, ?_, ?_, ?_, fun i hi => ?_, fun i hi => ?_, fun i hi => ?_, fun i hi w hw => ?_⟩
      · rw [List.length_append]; omega
      · rw [upd_ne (nL b o e)]
        exact sp _ _ (base2 b o e)
      · rw [upd_ne FL]
        exact sp _ _ e2F
      · rw [upd_same, List.map_append]
      · refine List.nodup_append.mpr ⟨nd, by simp, fun u hu w hw e => ?_⟩
        rw [List.mem_singleton.mp hw] at e
        exact hy (e ▸ hu)
      · rw [List.length_append]; omega
      · simp only [List.length_append, List.length_singleton]; omega
      · rcases List.mem_append.mp hi with z | z
        · exact r1 i z
        · rw [List.mem_singleton.mp z]; exact r2 y ymem
      · rcases List.mem_append.mp hi with z | z
        · exact r2 i (dsub i z)
        · exact .e (r2 y ymem) z
      · rcases c1 i hi with z | z
        · exact .inl (List.mem_append_left _ z)
        · rcases split i z with w | w
          · exact .inr (List.mem_append_left _ w)
          · exact .inl (by rw [w]; simp)
      · rcases List.mem_append.mp hi with z | z
        · rcases c2 i z w hw with u | u
          · exact .inl (List.mem_append_left _ u)
          · rcases split w u with v | v
            · exact .inr (List.mem_append_left _ v)
            · exact .inl (by rw [v]; simp)
        · rw [List.mem_singleton.mp z] at hw
          exact .inr (List.mem_append_right _ hw)
    · walk_at "st"
      refine ⟨_, ?_, fs, qs.dropLast, _, rfl, rfl, base, eF1, by rw [upd_same, mapd], nd, by omega, by omega, r1, fun i hi => r2 i (dsub i hi), fun i hi => ?_, fun i hi w hw => ?_⟩
      · omega
      · rcases c1 i hi with z | z
        · exact .inl z
        · rcases split i z with w | w
          · exact .inr w
          · exact .inl (by rw [w]; exact hy)
      · rcases c2 i hi w hw with z | z
        · exact .inl z
        · rcases split w z with u | u
          · exact .inr u
          · exact .inl (by rw [u]; exact hy)
/-! where ways lead: free moves, then a step, and so on -/
def ld (fs : List (Int × Int)) (x : Int) : List Int := (fs.filter fun p => decide (p.1 = x)).map Prod.snd
theorem mem_ld {fs : List (Int × Int)} {x y : Int} : y ∈ ld fs x ↔ (x, y) ∈ fs := by
  unfold ld
  rw [List.mem_map]
  constructor
  · rintro ⟨p, hp, e⟩
    obtain ⟨a, b⟩ := List.mem_filter.mp hp
    obtain ⟨p1, p2⟩ := p
    have := of_decide_eq_true b
    dsimp only at this e
    rw [← this, ← e]
    exact a
  · intro h
    exact ⟨(x, y), List.mem_filter.mpr ⟨h, decide_eq_true rfl⟩, rfl⟩
theorem rch_mono {f f' : Int → List Int} {S S' : List Int} {i : Int} (h : Rch f S i) (hf : ∀ x y, y ∈ f x → y ∈ f' x) (hs : ∀ x ∈ S, Rch f' S' x) : Rch f' S' i := by
  induction h with
  | s hx => exact hs _ hx
  | e hx hy ih => exact .e ih (hf _ _ hy)
theorem rch_one {f : Int → List Int} {S : List Int} {i : Int} : Rch f S i ↔ ∃ x ∈ S, Rch f [x] i := by
  constructor
  · intro h
    induction h with
    | s hx => exact ⟨_, hx, .s (by simp)⟩
    | e hx hy ih =>
      obtain ⟨x, h1, h2⟩ := ih
      exact ⟨x, h1, .e h2 hy⟩
  · rintro ⟨x, h1, h2⟩
    exact rch_mono h2 (fun _ _ h => h) fun y hy => .s (by rw [List.mem_singleton.mp hy]; exact h1)
/-- free moves from a state to itself lead nowhere else -/
theorem rch_free {fs fs' : List (Int × Int)} (mf : ∀ q, q ∈ fs' ↔ q ∈ fs ∧ q.1 ≠ q.2) {S : List Int} {i : Int} : Rch (ld fs') S i ↔ Rch (ld fs) S i := by
  constructor
  · exact fun h => rch_mono h (fun x y hy => mem_ld.mpr ((mf _).mp (mem_ld.mp hy)).1) fun x hx => .s hx
  · intro h
    induction h with
    | s hx => exact .s hx
    | @e x y hx hy ih =>
      by_cases e : x = y
      · rw [← e]; exact ih
      · exact .e ih (mem_ld.mpr ((mf _).mpr ⟨mem_ld.mp hy, e⟩))
/-- a test of a pair of a sign and a height -/
abbrev Tst := Str × Int → Bool
def StepP (es : List Ed) (fs : List (Int × Int)) (X : Int → Prop) (t : Tst) : Int → Prop := fun y => ∃ g, (∃ a, X a ∧ ∃ s h, (a, s, h, g) ∈ es ∧ t (s, h) = true) ∧ Rch (ld fs) [g] y
def RunP (es : List Ed) (fs : List (Int × Int)) (X : Int → Prop) : List Tst → Int → Prop
  | [] => X
  | t :: r => RunP es fs (StepP es fs X t) r
theorem RunP_snoc (es : List Ed) (fs : List (Int × Int)) (t : Tst) : ∀ (l : List Tst) (X : Int → Prop), RunP es fs X (l ++ [t]) = StepP es fs (RunP es fs X l) t
  | [], X => rfl
  | u :: r, X => RunP_snoc es fs t r (StepP es fs X u)
theorem StepP_iff {es es' : List Ed} {fs fs' : List (Int × Int)} (me : ∀ e, e ∈ es' ↔ e ∈ es) (mf : ∀ q, q ∈ fs' ↔ q ∈ fs ∧ q.1 ≠ q.2) {X X' : Int → Prop} (hX : ∀ y, X' y ↔ X y) (t : Tst) (y : Int) : StepP es' fs' X' t y ↔ StepP es fs X t y := by
  constructor
  · rintro ⟨g, ⟨a, h1, s, h, h2, h3⟩, h4⟩
    exact ⟨g, ⟨a, (hX a).mp h1, s, h, (me _).mp h2, h3⟩, (rch_free mf).mp h4⟩
  · rintro ⟨g, ⟨a, h1, s, h, h2, h3⟩, h4⟩
    exact ⟨g, ⟨a, (hX a).mpr h1, s, h, (me _).mpr h2, h3⟩, (rch_free mf).mpr h4⟩
theorem RunP_iff {es es' : List Ed} {fs fs' : List (Int × Int)} (me : ∀ e, e ∈ es' ↔ e ∈ es) (mf : ∀ q, q ∈ fs' ↔ q ∈ fs ∧ q.1 ≠ q.2) : ∀ (l : List Tst) {X X' : Int → Prop}, (∀ y, X' y ↔ X y) → ∀ y, RunP es' fs' X' l y ↔ RunP es fs X l y
  | [], _, _, h, y => h y
  | t :: r, _, _, h, y => RunP_iff me mf r (fun z => StepP_iff me mf h t z) y
theorem spreadP {es : List Ed} {fs : List (Int × Int)} {X : Int → Prop} {t : Tst} {gs : List Int} (h : ∀ g, g ∈ gs ↔ ∃ a, X a ∧ ∃ s h, (a, s, h, g) ∈ es ∧ t (s, h) = true) (y : Int) : Rch (ld fs) gs y ↔ StepP es fs X t y := by
  rw [rch_one]
  exact ⟨fun ⟨g, a, b⟩ => ⟨g, (h g).mp a, b⟩, fun ⟨g, a, b⟩ => ⟨g, (h g).mpr a, b⟩⟩
/-! Machine.spread -/
theorem mch_spread_ok {P : Program} {mg : Str → Option Value} (T : Txt P K mg) {m a : Addr} {fp : List Addr} {n : Int} {fin ss : List Int} {es : List Ed} {fs : List (Int × Int)} {H : Hp} {Q : VK} {E : XK} (hm : MchAt K H m fp n fin es fs) (hS : SqL K H a (ss.map V.int)) (z : ss.length ≤ 10000) (zf : fs.length ≤ 60)
    (h : ∀ p H' (xs : List Int), Same H H' → H p = none → H' p = some (.lst (xs.map V.int)) → xs.Pairwise (· < ·) → (∀ i, i ∈ xs ↔ Rch (ld fs) ss i) → Q (.ref p) H') : sp_Machine_spread K [.ref m, .ref a] H Q E := by
  obtain ⟨dx, F, A, L, O, W, us, vs, ov, ts, ow, a1, a2, a3, a4, a5, a6, a7, a8, a9, a10, a11, _⟩ := hm.ex
  refine ⟨rfl, ?_⟩
  unfold t_Machine_spread
  walk_at "st"
  refine ⟨m, _, dx, _, _, rfl, a1, T.c_Machine, T.n_Machine_onward, lk_onward _ _ _ _ _ _ _, ?_⟩
  walk_at "st"
  refine reached_ok (ss := ss) (ks := ow) hS a9 (by rw [a11]; omega) fun p1 H1 fs1 s1 f1 e1 nd m1 => ?_
  walk_at "st"
  refine rd_listDk e1 fun p hp => ?_
  have sp := Same.new (o := .lst ((trK fs1).map fun kv => kV kv.1)) hp
  have ep : upd H1 p (.lst ((trK fs1).map fun kv => kV kv.1)) p = some (.lst (fs1.map V.int)) := by rw [upd_same]; unfold trK; rw [List.map_map]; rfl
  walk_at "st"
  refine sorted_ints ep fun p2 hp2 => ?_
  have s2 := Same.new (o := .lst ((sortI fs1).map V.int)) hp2
  have s := (s1.trans sp).trans s2
  refine h p2 _ (sortI fs1) s ?_ upd_same (sortI_up nd) fun i => mem_sortI.trans ((m1 i).trans ?_)
  · cases w : H p2 with
    | none => rfl
    | some o => rw [sp _ _ (s1 _ _ w)] at hp2; cases hp2
  · have : gr ow = ld fs := funext a10
    rw [this]
theorem shaped_si {z : Str} (i : Int) (h : PyData.strOk z = true) : SeqAt.shaped (.tuple [.str z, .int i]) = true := by simp [SeqAt.shaped, PyData.canLay0, PyData.canLayAll0, PyData.depth, PyData.depthAll, h]
theorem eqv_si (z z' : Str) (i i' : Int) : PyData.eqv (.tuple [.str z, .int i]) (.tuple [.str z', .int i']) = decide (z = z' ∧ i = i') := by
  by_cases h1 : z = z'
  · by_cases h2 : i = i'
    · subst h1 h2; simp [PyData.eqv, PyData.eqvAll]
    · subst h1; simp [PyData.eqv, PyData.eqvAll, h2]
  · simp [PyData.eqv, PyData.eqvAll, h1]
theorem siData {H : Hp} {a : Addr} {z : Str} {i : Int} (h : H a = some (.tup [.str z, .int i])) : Dp K H (.ref a) (.tuple [.str z, .int i]) := .tup (SqT.of h) (.cons (.str _) (.cons (.int _) .nil))
/-! the comprehensions over what goes out of some states -/
theorem eqA_si {p q : Addr} {z z' : Str} {i i' : Int} {H : Hp} {Q : VK} (hp : H p = some (.tup [.str z, .int i])) (hq : H q = some (.tup [.str z', .int i'])) (oz : PyData.strOk z = true) (oz' : PyData.strOk z' = true) (h : Q (.bl (decide (z = z' ∧ i = i'))) H) : rEqA K (.ref p) (.ref q) H Q :=
  eqA_data (siData hp) (siData hq) (shaped_si i oz) (shaped_si i' oz') (eqv_si z z' i i') h
theorem rd_lc2 {wi wi1 : TI} {g g1 : TG} {tt tt1 : TT} {te : L2.TE} {vs vs1 : List Nat} {σ : L2.St} {H : Hp} {Q : VK} (h : wi σ H fun J H1 => ∀ D, H1 D = none → ∃ W : Nat → Nat → Hp → Prop, (∃ m, W 0 m (upd H1 D (.lst []))) ∧ ∀ i m H, W i m H →
  (J.stop i H ∧ Q (.ref D) H) ∨ (J.go i H ∧ ∃ Nx : Hp → Prop, (∀ H', Nx H' → ∃ m', m' < m ∧ W (i + 1) m' H') ∧ ∀ x H', J.yld i H x H' → g x (wipe σ vs) H' fun σ2 H2 => wipe σ2 vs = wipe σ vs ∧ tt σ2 H2 fun b H3 =>
    if b = true then wi1 σ2 H3 fun J1 H4 => ∃ W1 : Nat → Nat → Hp → Prop, (∃ m, W1 0 m H4) ∧ ∀ j k H, W1 j k H →
      (J1.stop j H ∧ Nx H) ∨ (J1.go j H ∧ ∃ Nx1 : Hp → Prop, (∀ H', Nx1 H' → ∃ k', k' < k ∧ W1 (j + 1) k' H') ∧ ∀ x H', J1.yld j H x H' → g1 x (wipe σ2 vs1) H' fun σ3 H5 => wipe σ3 vs1 = wipe σ2 vs1 ∧ tt1 σ3 H5 fun b H6 =>
        if b = true then te σ3 H6 fun y H7 => ∃ acc, H7 D = some (.lst acc) ∧ acc.length < sizeLine ∧ Nx1 (upd H7 D (.lst (acc ++ [y]))) else Nx1 H6)
    else Nx H3)) : tLc2 wi g tt wi1 g1 tt1 te vs vs1 σ H Q := h
theorem step_row {P : Program} {mg : Str → Option Value} (T : Txt P K mg) {m A1 : Addr} {fp : List Addr} {n : Int} {fin xs : List Int} {es : List Ed} {fs : List (Int × Int)} {b1 b2 : Option V} {H : Hp} {Q : VK} (hm : MchAt K H m fp n fin es fs) (hA : H A1 = some (.lst (xs.map V.int))) (zx : xs.length ≤ 100) (ze : es.length ≤ 60) {pq : Addr} {qc : Nat} {qh : Int} (hq : H pq = some (.tup [.str (tx [qc]), .int qh])) (hokq : PyData.strOk (tx [qc]) = true) (oke : ∀ e ∈ es, PyData.strOk e.2.1 = true)
    (h : ∀ D H' (gs : List Int), Same H H' → H' D = some (.lst (gs.map V.int)) → gs.length ≤ 6000 → (∀ g, g ∈ gs ↔ ∃ a, a ∈ xs ∧ ∃ s h, (a, s, h, g) ∈ es ∧ (fun sh => decide (sh = (tx [qc], qh)) : Tst) (s, h) = true) → Q (.ref D) H') :
    tLc2 (iList K (tVar 3)) (gName 5) tYes (iList K (tDGet2 (tFld K (tVar 0) "outs") (tVar 5) (tLst tNil))) (gTup K 3 (gCons (gName 6) (gCons (gName 7) (gCons (gName 8) gNil)))) (tTest (tOp (rEqA K) (tTup (tCons (tVar 6) (tCons (tVar 7) tNil))) (tVar 4))) (tVar 8) [5, 6, 7, 8] [6, 7, 8] [some (.ref m), b1, b2, some (.ref A1), some (.ref pq), none, none, none, none] H Q := by
  obtain ⟨dx, F, A, L, O, W, us, vs, ov, ts, ow, a1, a2, a3, a4, a5, a6, a7, a8, a9, a10, a11, _⟩ := hm.ex
  refine rd_lc2 ?_
  walk_at "st"
  refine ⟨A1, rfl, ⟨_, .of hA⟩, fun D hD => ?_⟩
  have tl : ts.length = es.length := by rw [← a8, List.length_map]
  refine loop_it (walk_list (K := K) (a := A1) (xs := xs.map V.int)) (fun i H3 => Same H H3 ∧ ∃ gs : List Int, H3 D = some (.lst (gs.map V.int)) ∧ gs.length ≤ i * 60 ∧ ∀ g, g ∈ gs ↔ ∃ a, a ∈ xs.take i ∧ ∃ s h, (a, s, h, g) ∈ es ∧ (fun sh => decide (sh = (tx [qc], qh)) : Tst) (s, h) = true)
    ⟨Same.new hD, [], upd_same, by simp, fun g => ⟨fun z => (nomatch z), fun ⟨a, z, _⟩ => by rw [List.take_zero] at z; cases z⟩⟩ (fun i H3 _ q => .of (q.1 _ _ hA)) ?_ ?_
  · rintro i x H3 H4 hi ⟨s3, gs, eD, gl, gm⟩ ⟨rfl, hx⟩
    obtain ⟨a, ha, rfl⟩ := getI hx
    rw [List.length_map] at hi
    have etk : xs.take (i + 1) = xs.take i ++ [a] := by rw [List.take_succ_eq_append_getElem hi, (List.getElem?_eq_some_iff.mp ha).2]
    walk_at "st"
    refine ⟨rfl, ?_⟩
    walk_at "st"
    refine ⟨m, _, dx, _, _, rfl, s3 _ _ a1, T.c_Machine, T.n_Machine_outs, lk_outs _ _ _ _ _ _, ?_⟩
    have DO := a5.same s3
    refine ⟨O, rfl, .inl ⟨_, .inl DO.dk⟩, ?_⟩
    walk_at "st"
    intro p hp
    have sp := Same.new (o := .lst []) hp
    have pv : ∃ q : Addr, ((valV (dvK ov) (.inl a)).getD (.ref p)) = .ref q ∧ upd H4 p (.lst []) q = some (.lst (gv ov a)) ∧ q ≠ D := by
      rcases dv_val ov a with ⟨z1, z2, _⟩ | ⟨b, l, z0, z1, z2⟩
      · rw [z1, z2]; exact ⟨p, rfl, upd_same, fun w => by rw [w, eD] at hp; cases hp⟩
      · rw [z1, z2]; exact ⟨b, rfl, sp _ _ (DO.ls _ z0), ne_of_none (a5.ls _ z0) hD⟩
    refine ⟨_, DGet.k (k := .inl a) (sp _ _ DO.dk), ?_⟩
    obtain ⟨q, eq, eQ, nqD⟩ := pv
    rw [eq]
    refine ⟨q, rfl, ⟨_, .of eQ⟩, ?_⟩
    rw [a6 a] at eQ
    have s4 : Same H (upd H4 p (.lst [])) := s3.trans sp
    have tI : ∀ t ∈ ts.filter (fun t => decide (t.2.1 = a)), t.2 ∈ es ∧ t.2.1 = a ∧ upd H4 p (.lst []) t.1 = some (.tup ((kT t.2.2).map kV)) := fun t ht => by
      obtain ⟨h1, h2⟩ := List.mem_filter.mp ht
      exact ⟨by rw [← a8]; exact List.mem_map.mpr ⟨t, h1, rfl⟩, of_decide_eq_true h2, s4 _ _ (a7 t h1)⟩
    have tJ : ∀ s h g, (a, s, h, g) ∈ es → ∃ t ∈ ts.filter (fun t => decide (t.2.1 = a)), t.2 = (a, s, h, g) := fun s h g he => by
      rw [← a8] at he
      obtain ⟨t, h1, h2⟩ := List.mem_map.mp he
      exact ⟨t, List.mem_filter.mpr ⟨h1, decide_eq_true (by rw [h2])⟩, h2⟩
    have uL : (ts.filter fun t => decide (t.2.1 = a)).length ≤ 60 := Nat.le_trans (List.length_filter_le _ _) (by omega)
    have eD4 := sp _ _ eD
    generalize (ts.filter fun t => decide (t.2.1 = a)) = tt at eQ tI tJ uL
    generalize upd H4 p (.lst []) = H5 at eQ tI s4 eD4 ⊢
    refine loop_it (walk_list (K := K) (a := q) (xs := tt.map fun t => V.ref t.1)) (fun j H6 => Same H H6 ∧ (∀ u zs, H5 u = some (.tup zs) → H6 u = some (.tup zs)) ∧ (H6 q = some (.lst (tt.map fun t => V.ref t.1)) ∨ q = D) ∧ q ≠ D ∧ ∃ gs' : List Int, H6 D = some (.lst (gs'.map V.int)) ∧ gs'.length ≤ i * 60 + j ∧ ∀ g, g ∈ gs' ↔ g ∈ gs ∨ ∃ t ∈ tt.take j, t.2.2.2.2 = g ∧ (fun sh => decide (sh = (tx [qc], qh)) : Tst) (t.2.2.1, t.2.2.2.1) = true)
      ⟨s4, fun _ _ e => e, .inl eQ, nqD, gs, eD4, by omega, fun g => ⟨.inl, fun z => z.elim id fun ⟨t, z, _⟩ => by rw [List.take_zero] at z; cases z⟩⟩ (fun j H6 _ z => .of (z.2.2.1.resolve_right z.2.2.2.1)) ?_ ?_
    · rintro j x H6 H7 hj ⟨s6, k6, eq6, nq, gs', eD6, gl6, gm6⟩ ⟨rfl, hx⟩
      rw [List.length_map] at hj
      rw [List.getElem?_map, List.getElem?_eq_getElem hj] at hx
      cases hx
      have etj : tt.take (j + 1) = tt.take j ++ [tt[j]] := List.take_succ_eq_append_getElem hj
      obtain ⟨eI, ea, eu⟩ := tI _ (List.getElem_mem hj)
      generalize tt[j] = t at etj eI ea eu
      obtain ⟨u, a', s, hh, g⟩ := t
      dsimp only at ea
      subst ea
      have mem1 : ∀ b : Bool, ((fun sh => decide (sh = (tx [qc], qh)) : Tst) (s, hh) = b) → ∀ g2, (∃ t ∈ tt.take (j + 1), t.2.2.2.2 = g2 ∧ (fun sh => decide (sh = (tx [qc], qh)) : Tst) (t.2.2.1, t.2.2.2.1) = true) ↔ (∃ t ∈ tt.take j, t.2.2.2.2 = g2 ∧ (fun sh => decide (sh = (tx [qc], qh)) : Tst) (t.2.2.1, t.2.2.2.1) = true) ∨ (b = true ∧ g2 = g) := fun b eb g2 => by
        rw [etj]
        constructor
        · rintro ⟨t, h1, h2, h3⟩
          rcases List.mem_append.mp h1 with w | w
          · exact .inl ⟨t, w, h2, h3⟩
          · rw [List.mem_singleton.mp w] at h2 h3
            exact .inr ⟨by rw [← eb]; exact h3, h2.symm⟩
        · rintro (⟨t, h1, h2⟩ | ⟨h1, h2⟩)
          · exact ⟨t, List.mem_append_left _ h1, h2⟩
          · exact ⟨_, List.mem_append_right _ (List.mem_singleton.mpr rfl), h2.symm, eb.trans h1⟩
      have eu7 : H7 u = some (.tup [V.str s, V.int hh, V.int g]) := k6 _ _ eu
      refine rd_gtup eu7 rfl ?_
      walk_at "st"
      refine ⟨rfl, ?_⟩
      walk_at "st"
      intro pt hpt
      have K8 := Same.new (o := .tup [V.str s, V.int hh]) hpt
      walk_at "st"
      refine eqA_si upd_same (K8 _ _ (s6 _ _ hq)) (oke _ eI) hokq ?_
      generalize upd H7 pt (.tup [V.str s, V.int hh]) = H8 at K8 ⊢
      walk_at "st"
      by_cases c : s = tx [qc] ∧ hh = qh
      · refine rd_iteB (decide_eq_true c) ?_
        walk_at "st"
        refine ⟨_, K8 _ _ eD6, by rw [List.length_map, sizeLine_eq]; omega, fun b o e => ?_, fun u' zs e => ?_, .inl (by rw [upd_ne nq]; exact K8 _ _ (eq6.resolve_right nq)), nq, gs' ++ [g], by rw [upd_same, mapI_app], by rw [List.length_append, List.length_singleton]; omega, fun g2 => ?_⟩
        · rw [upd_ne (ne_of_none e hD)]
          exact K8 _ _ (s6 _ _ e)
        · rw [upd_ne (fun z => by rw [z, eD4] at e; cases e)]
          exact K8 _ _ (k6 _ _ e)
        · rw [mem1 true (by rw [c.1, c.2]; exact decide_eq_true rfl) g2, List.mem_append, List.mem_singleton, gm6]
          constructor
          · rintro ((w | w) | w)
            · exact .inl w
            · exact .inr (.inl w)
            · exact .inr (.inr ⟨rfl, w⟩)
          · rintro (w | w | w)
            · exact .inl (.inl w)
            · exact .inl (.inr w)
            · exact .inr w.2
      · refine rd_iteC (decide_eq_false c) ?_
        refine ⟨s6.trans K8, fun u' zs e => K8 _ _ (k6 _ _ e), eq6.imp_left (K8 _ _), nq, gs', K8 _ _ eD6, by omega, fun g2 => ?_⟩
        rw [mem1 false (decide_eq_false fun z => c ⟨congrArg Prod.fst z, congrArg Prod.snd z⟩) g2, gm6]
        constructor
        · rintro (w | w)
          · exact .inl w
          · exact .inr (.inl w)
        · rintro (w | w | w)
          · exact .inl w
          · exact .inr w
          · cases w.1
    · rintro H6 ⟨s6, k6, eq6, nq, gs', eD6, gl6, gm6⟩
      rw [List.length_map, List.take_length] at gm6
      rw [List.length_map] at gl6
      refine ⟨s6, gs', eD6, by omega, fun g => ?_⟩
      rw [gm6, gm, etk]
      constructor
      · rintro (⟨b, h1, h2⟩ | ⟨t, h1, h2, h3⟩)
        · exact ⟨b, List.mem_append_left _ h1, h2⟩
        · obtain ⟨i1, i2, _⟩ := tI t h1
          refine ⟨a, by simp, t.2.2.1, t.2.2.2.1, ?_, h3⟩
          rw [← h2, ← i2]
          exact i1
      · rintro ⟨b, h1, s, h, h2, h3⟩
        rcases List.mem_append.mp h1 with w | w
        · exact .inl ⟨b, w, s, h, h2, h3⟩
        · rw [List.mem_singleton.mp w] at h2
          obtain ⟨t, t1, t2⟩ := tJ s h g h2
          exact .inr ⟨t, t1, by rw [t2], by rw [t2]; exact h3⟩
  · rintro H3 ⟨s3, gs, eD, gl, gm⟩
    rw [List.length_map, List.take_length] at gm
    rw [List.length_map] at gl
    exact h D H3 gs s3 eD (by omega) gm
theorem step_txt {P : Program} {mg : Str → Option Value} (T : Txt P K mg) {m A1 : Addr} {fp : List Addr} {n : Int} {fin xs : List Int} {es : List Ed} {fs : List (Int × Int)} {b1 : Option V} {H : Hp} {Q : VK} (hm : MchAt K H m fp n fin es fs) (hA : H A1 = some (.lst (xs.map V.int))) (zx : xs.length ≤ 100) (ze : es.length ≤ 60) {cc : Nat}
    (h : ∀ D H' (gs : List Int), Same H H' → H' D = some (.lst (gs.map V.int)) → gs.length ≤ 6000 → (∀ g, g ∈ gs ↔ ∃ a, a ∈ xs ∧ ∃ s h, (a, s, h, g) ∈ es ∧ (fun sh => decide (sh.1 = tx [cc]) : Tst) (s, h) = true) → Q (.ref D) H') :
    tLc2 (iList K (tVar 2)) (gName 4) tYes (iList K (tDGet2 (tFld K (tVar 0) "outs") (tVar 4) (tLst tNil))) (gTup K 3 (gCons (gName 5) (gCons (gName 6) (gCons (gName 7) gNil)))) (tTest (tOp (rEqA K) (tVar 5) (tVar 3))) (tVar 7) [4, 5, 6, 7] [5, 6, 7] [some (.ref m), b1, some (.ref A1), some (.str (tx [cc])), none, none, none, none] H Q := by
  obtain ⟨dx, F, A, L, O, W, us, vs, ov, ts, ow, a1, a2, a3, a4, a5, a6, a7, a8, a9, a10, a11, _⟩ := hm.ex
  refine rd_lc2 ?_
  walk_at "st"
  refine ⟨A1, rfl, ⟨_, .of hA⟩, fun D hD => ?_⟩
  have tl : ts.length = es.length := by rw [← a8, List.length_map]
  refine loop_it (walk_list (K := K) (a := A1) (xs := xs.map V.int)) (fun i H3 => Same H H3 ∧ ∃ gs : List Int, H3 D = some (.lst (gs.map V.int)) ∧ gs.length ≤ i * 60 ∧ ∀ g, g ∈ gs ↔ ∃ a, a ∈ xs.take i ∧ ∃ s h, (a, s, h, g) ∈ es ∧ (fun sh => decide (sh.1 = tx [cc]) : Tst) (s, h) = true)
    ⟨Same.new hD, [], upd_same, by simp, fun g => ⟨fun z => (nomatch z), fun ⟨a, z, _⟩ => by rw [List.take_zero] at z; cases z⟩⟩ (fun i H3 _ q => .of (q.1 _ _ hA)) ?_ ?_
  · rintro i x H3 H4 hi ⟨s3, gs, eD, gl, gm⟩ ⟨rfl, hx⟩
    obtain ⟨a, ha, rfl⟩ := getI hx
    rw [List.length_map] at hi
    have etk : xs.take (i + 1) = xs.take i ++ [a] := by rw [List.take_succ_eq_append_getElem hi, (List.getElem?_eq_some_iff.mp ha).2]
    walk_at "st"
    refine ⟨rfl, ?_⟩
    walk_at "st"
    refine ⟨m, _, dx, _, _, rfl, s3 _ _ a1, T.c_Machine, T.n_Machine_outs, lk_outs _ _ _ _ _ _, ?_⟩
    have DO := a5.same s3
    refine ⟨O, rfl, .inl ⟨_, .inl DO.dk⟩, ?_⟩
    walk_at "st"
    intro p hp
    have sp := Same.new (o := .lst []) hp
    have pv : ∃ q : Addr, ((valV (dvK ov) (.inl a)).getD (.ref p)) = .ref q ∧ upd H4 p (.lst []) q = some (.lst (gv ov a)) ∧ q ≠ D := by
      rcases dv_val ov a with ⟨z1, z2, _⟩ | ⟨b, l, z0, z1, z2⟩
      · rw [z1, z2]; exact ⟨p, rfl, upd_same, fun w => by rw [w, eD] at hp; cases hp⟩
      · rw [z1, z2]; exact ⟨b, rfl, sp _ _ (DO.ls _ z0), ne_of_none (a5.ls _ z0) hD⟩
    refine ⟨_, DGet.k (k := .inl a) (sp _ _ DO.dk), ?_⟩
    obtain ⟨q, eq, eQ, nqD⟩ := pv
    rw [eq]
    refine ⟨q, rfl, ⟨_, .of eQ⟩, ?_⟩
    rw [a6 a] at eQ
    have s4 : Same H (upd H4 p (.lst [])) := s3.trans sp
    have tI : ∀ t ∈ ts.filter (fun t => decide (t.2.1 = a)), t.2 ∈ es ∧ t.2.1 = a ∧ upd H4 p (.lst []) t.1 = some (.tup ((kT t.2.2).map kV)) := fun t ht => by
      obtain ⟨h1, h2⟩ := List.mem_filter.mp ht
      exact ⟨by rw [← a8]; exact List.mem_map.mpr ⟨t, h1, rfl⟩, of_decide_eq_true h2, s4 _ _ (a7 t h1)⟩
    have tJ : ∀ s h g, (a, s, h, g) ∈ es → ∃ t ∈ ts.filter (fun t => decide (t.2.1 = a)), t.2 = (a, s, h, g) := fun s h g he => by
      rw [← a8] at he
      obtain ⟨t, h1, h2⟩ := List.mem_map.mp he
      exact ⟨t, List.mem_filter.mpr ⟨h1, decide_eq_true (by rw [h2])⟩, h2⟩
    have uL : (ts.filter fun t => decide (t.2.1 = a)).length ≤ 60 := Nat.le_trans (List.length_filter_le _ _) (by omega)
    have eD4 := sp _ _ eD
    generalize (ts.filter fun t => decide (t.2.1 = a)) = tt at eQ tI tJ uL
    generalize upd H4 p (.lst []) = H5 at eQ tI s4 eD4 ⊢
    refine loop_it (walk_list (K := K) (a := q) (xs := tt.map fun t => V.ref t.1)) (fun j H6 => Same H H6 ∧ (∀ u zs, H5 u = some (.tup zs) → H6 u = some (.tup zs)) ∧ (H6 q = some (.lst (tt.map fun t => V.ref t.1)) ∨ q = D) ∧ q ≠ D ∧ ∃ gs' : List Int, H6 D = some (.lst (gs'.map V.int)) ∧ gs'.length ≤ i * 60 + j ∧ ∀ g, g ∈ gs' ↔ g ∈ gs ∨ ∃ t ∈ tt.take j, t.2.2.2.2 = g ∧ (fun sh => decide (sh.1 = tx [cc]) : Tst) (t.2.2.1, t.2.2.2.1) = true)
      ⟨s4, fun _ _ e => e, .inl eQ, nqD, gs, eD4, by omega, fun g => ⟨.inl, fun z => z.elim id fun ⟨t, z, _⟩ => by rw [List.take_zero] at z; cases z⟩⟩ (fun j H6 _ z => .of (z.2.2.1.resolve_right z.2.2.2.1)) ?_ ?_
    · rintro j x H6 H7 hj ⟨s6, k6, eq6, nq, gs', eD6, gl6, gm6⟩ ⟨rfl, hx⟩
      rw [List.length_map] at hj
      rw [List.getElem?_map, List.getElem?_eq_getElem hj] at hx
      cases hx
      have etj : tt.take (j + 1) = tt.take j ++ [tt[j]] := List.take_succ_eq_append_getElem hj
      obtain ⟨eI, ea, eu⟩ := tI _ (List.getElem_mem hj)
      generalize tt[j] = t at etj eI ea eu
      obtain ⟨u, a', s, hh, g⟩ := t
      dsimp only at ea
      subst ea
      have mem1 : ∀ b : Bool, ((fun sh => decide (sh.1 = tx [cc]) : Tst) (s, hh) = b) → ∀ g2, (∃ t ∈ tt.take (j + 1), t.2.2.2.2 = g2 ∧ (fun sh => decide (sh.1 = tx [cc]) : Tst) (t.2.2.1, t.2.2.2.1) = true) ↔ (∃ t ∈ tt.take j, t.2.2.2.2 = g2 ∧ (fun sh => decide (sh.1 = tx [cc]) : Tst) (t.2.2.1, t.2.2.2.1) = true) ∨ (b = true ∧ g2 = g) := fun b eb g2 => by
        rw [etj]
        constructor
        · rintro ⟨t, h1, h2, h3⟩
          rcases List.mem_append.mp h1 with w | w
          · exact .inl ⟨t, w, h2, h3⟩
          · rw [List.mem_singleton.mp w] at h2 h3
            exact .inr ⟨by rw [← eb]; exact h3, h2.symm⟩
        · rintro (⟨t, h1, h2⟩ | ⟨h1, h2⟩)
          · exact ⟨t, List.mem_append_left _ h1, h2⟩
          · exact ⟨_, List.mem_append_right _ (List.mem_singleton.mpr rfl), h2.symm, eb.trans h1⟩
      have eu7 : H7 u = some (.tup [V.str s, V.int hh, V.int g]) := k6 _ _ eu
      refine rd_gtup eu7 rfl ?_
      walk_at "st"
      refine ⟨rfl, ?_⟩
      walk_at "st"
      have K8 := Same.refl H7
      generalize H7 = H8 at *
      by_cases c : s = tx [cc]
      · refine rd_iteB (decide_eq_true c) ?_
        walk_at "st"
        refine ⟨_, K8 _ _ eD6, by rw [List.length_map, sizeLine_eq]; omega, fun b o e => ?_, fun u' zs e => ?_, .inl (by rw [upd_ne nq]; exact K8 _ _ (eq6.resolve_right nq)), nq, gs' ++ [g], by rw [upd_same, mapI_app], by rw [List.length_append, List.length_singleton]; omega, fun g2 => ?_⟩
        · rw [upd_ne (ne_of_none e hD)]
          exact K8 _ _ (s6 _ _ e)
        · rw [upd_ne (fun z => by rw [z, eD4] at e; cases e)]
          exact K8 _ _ (k6 _ _ e)
        · rw [mem1 true (decide_eq_true c) g2, List.mem_append, List.mem_singleton, gm6]
          constructor
          · rintro ((w | w) | w)
            · exact .inl w
            · exact .inr (.inl w)
            · exact .inr (.inr ⟨rfl, w⟩)
          · rintro (w | w | w)
            · exact .inl (.inl w)
            · exact .inl (.inr w)
            · exact .inr w.2
      · refine rd_iteC (decide_eq_false c) ?_
        refine ⟨s6.trans K8, fun u' zs e => K8 _ _ (k6 _ _ e), eq6.imp_left (K8 _ _), nq, gs', K8 _ _ eD6, by omega, fun g2 => ?_⟩
        rw [mem1 false (decide_eq_false c) g2, gm6]
        constructor
        · rintro (w | w)
          · exact .inl w
          · exact .inr (.inl w)
        · rintro (w | w | w)
          · exact .inl w
          · exact .inr w
          · cases w.1
    · rintro H6 ⟨s6, k6, eq6, nq, gs', eD6, gl6, gm6⟩
      rw [List.length_map, List.take_length] at gm6
      rw [List.length_map] at gl6
      refine ⟨s6, gs', eD6, by omega, fun g => ?_⟩
      rw [gm6, gm, etk]
      constructor
      · rintro (⟨b, h1, h2⟩ | ⟨t, h1, h2, h3⟩)
        · exact ⟨b, List.mem_append_left _ h1, h2⟩
        · obtain ⟨i1, i2, _⟩ := tI t h1
          refine ⟨a, by simp, t.2.2.1, t.2.2.2.1, ?_, h3⟩
          rw [← h2, ← i2]
          exact i1
      · rintro ⟨b, h1, s, h, h2, h3⟩
        rcases List.mem_append.mp h1 with w | w
        · exact .inl ⟨b, w, s, h, h2, h3⟩
        · rw [List.mem_singleton.mp w] at h2
          obtain ⟨t, t1, t2⟩ := tJ s h g h2
          exact .inr ⟨t, t1, by rw [t2], by rw [t2]; exact h3⟩
  · rintro H3 ⟨s3, gs, eD, gl, gm⟩
    rw [List.length_map, List.take_length] at gm
    rw [List.length_map] at gl
    exact h D H3 gs s3 eD (by omega) gm
theorem inV_ints (i : Int) : ∀ l : List Int, inV (.int i) (l.map V.int) = decide (i ∈ l)
  | [] => rfl
  | j :: r => by
    have ih := inV_ints i r
    unfold inV at ih ⊢
    rw [List.map_cons, List.any_cons, ih]
    by_cases h : i = j
    · subst h; simp [eqV]
    · have h2 : j ≠ i := fun z => h z.symm
      simp [eqV, h, h2]
theorem flat_ints (l : List Int) : (l.map V.int).all flatV = true := by
  rw [List.all_eq_true]
  intro x hx
  obtain ⟨i, _, rfl⟩ := List.mem_map.mp hx
  rfl
theorem inA_ints {K : Frg} {p : Addr} {i : Int} {l : List Int} {H : Hp} {Q : VK} (hp : SqL K H p (l.map V.int)) (h : Q (.bl (decide (i ∈ l))) H) : rInA K (.int i) (.ref p) H Q := inA_seq (.inl hp) rfl (flat_ints l) (by rw [inV_ints]; exact h)
/-! Machine.ends -/
theorem rch_ins {n : Int} {fs : List (Int × Int)} (hf : ∀ q ∈ fs, 0 ≤ q.2 ∧ q.2 < n) {ss : List Int} (hs : ∀ y ∈ ss, 0 ≤ y ∧ y < n) {y : Int} (h : Rch (ld fs) ss y) : 0 ≤ y ∧ y < n := by
  induction h with
  | s hx => exact hs _ hx
  | e hx hy ih => exact hf _ (mem_ld.mp hy)
theorem step_ins {n : Int} {es : List Ed} {fs : List (Int × Int)} (he : ∀ e ∈ es, 0 ≤ e.2.2.2 ∧ e.2.2.2 < n) (hf : ∀ q ∈ fs, 0 ≤ q.2 ∧ q.2 < n) {X : Int → Prop} {t : Tst} {y : Int} (h : StepP es fs X t y) : 0 ≤ y ∧ y < n := by
  obtain ⟨g, ⟨a, _, s, k, h2, _⟩, h4⟩ := h
  exact rch_ins hf (fun y hy => by rw [List.mem_singleton.mp hy]; exact he _ h2) h4
theorem run_ins {n : Int} {es : List Ed} {fs : List (Int × Int)} (he : ∀ e ∈ es, 0 ≤ e.2.2.2 ∧ e.2.2.2 < n) (hf : ∀ q ∈ fs, 0 ≤ q.2 ∧ q.2 < n) : ∀ (l : List Tst) {X : Int → Prop}, (∀ y, X y → 0 ≤ y ∧ y < n) → ∀ {y}, RunP es fs X l y → 0 ≤ y ∧ y < n
  | [], _, hX, _, h => hX _ h
  | _ :: r, _, _, _, h => run_ins he hf r (fun _ z => step_ins he hf z) h
theorem up_len : ∀ {l : List Int} {lo n : Int}, l.Pairwise (· < ·) → (∀ x ∈ l, lo ≤ x ∧ x < n) → l.length ≤ (n - lo).toNat
  | [], _, _, _, _ => Nat.zero_le _
  | x :: r, lo, n, h, b => by
    rw [List.pairwise_cons] at h
    have b0 := b x List.mem_cons_self
    have := up_len (lo := x + 1) (n := n) h.2 fun y hy => ⟨h.1 y hy, (b y (List.mem_cons_of_mem _ hy)).2⟩
    rw [List.length_cons]
    omega
/-- the start of a run -/
abbrev St0 (fs : List (Int × Int)) (ss : List Int) : Int → Prop := fun y => Rch (ld fs) ss y
def tst (p : Nat × Int) : Tst := fun sh => decide (sh = (tx [p.1], p.2))
/-- edges and free moves stay below n -/
structure Below (n : Int) (es : List Ed) (fs : List (Int × Int)) : Prop where
  e : ∀ e ∈ es, 0 ≤ e.2.2.2 ∧ e.2.2.2 < n
  f : ∀ q ∈ fs, 0 ≤ q.2 ∧ q.2 < n
  k : ∀ e ∈ es, PyData.strOk e.2.1 = true
  ze : es.length ≤ 60
  zf : fs.length ≤ 60
  zn : n ≤ 40
theorem Below.len {n : Int} {es : List Ed} {fs : List (Int × Int)} (b : Below n es fs) {xs : List Int} {l : List Tst} {X : Int → Prop} (up : xs.Pairwise (· < ·)) (hX : ∀ y, X y → 0 ≤ y ∧ y < n) (h : ∀ i, i ∈ xs ↔ RunP es fs X l i) : xs.length ≤ 40 := by
  have := up_len up fun x hx => run_ins b.e b.f l hX ((h x).mp hx)
  have := b.zn
  omega
theorem spread1 {es : List Ed} {fs : List (Int × Int)} {xs gs : List Int} {X : Int → Prop} {l : List Tst} {t : Tst} (mx : ∀ i, i ∈ xs ↔ RunP es fs X l i) (hg : ∀ g, g ∈ gs ↔ ∃ a, a ∈ xs ∧ ∃ s h, (a, s, h, g) ∈ es ∧ t (s, h) = true) (y : Int) : Rch (ld fs) gs y ↔ RunP es fs X (l ++ [t]) y := by
  rw [RunP_snoc]
  exact spreadP (fun g => (hg g).trans ⟨fun ⟨a, h1, h2⟩ => ⟨a, (mx a).mp h1, h2⟩, fun ⟨a, h1, h2⟩ => ⟨a, (mx a).mpr h1, h2⟩⟩) y
theorem mch_ends_ok {P : Program} {mg : Str → Option Value} (T : Txt P K mg) {m y D : Addr} {fp : List Addr} {n s0 : Int} {fin : List Int} {es : List Ed} {fs : List (Int × Int)} {ps : List (Nat × Int)} {H : Hp} {Q : VK} {E : XK} (hm : MchAt K H m fp n fin es fs) (hy : RowAt K H y D ps) (b : Below n es fs) (h0 : 0 ≤ s0 ∧ s0 < n) (zp : ps.length ≤ 100) (okp : ∀ p ∈ ps, p.1 ∈ letters)
    (h : ∀ p H' (xs : List Int), Same H H' → H p = none → H' p = some (.lst (xs.map V.int)) → xs.Pairwise (· < ·) → (∀ i, i ∈ xs ↔ RunP es fs (St0 fs [s0]) (ps.map tst) i) → Q (.ref p) H') : sp_Machine_ends K [.ref m, .int s0, .ref y] H Q E := by
  have hX : ∀ z, St0 fs [s0] z → 0 ≤ z ∧ z < n := fun z hz => rch_ins b.f (fun y hy => by rw [List.mem_singleton.mp hy]; exact h0) hz
  refine ⟨rfl, ?_⟩
  unfold t_Machine_ends
  obtain ⟨dx, F, A, L, O, W, us, vs, ov, ts, ow, a1, _⟩ := hm.ex
  have nlS : ∀ (F A L O W : Addr), (mF n F A L O W).lookup ("spread" : Str) = none := fun F A L O W => by
    have e1 : (("spread" : Str) == "many") = false := by decide +kernel
    have e2 : (("spread" : Str) == "finals") = false := by decide +kernel
    have e3 : (("spread" : Str) == "arcs") = false := by decide +kernel
    have e4 : (("spread" : Str) == "leads") = false := by decide +kernel
    have e5 : (("spread" : Str) == "outs") = false := by decide +kernel
    have e6 : (("spread" : Str) == "onward") = false := by decide +kernel
    simp [mF, List.lookup, e1, e2, e3, e4, e5, e6]
  walk_at "sq"
  walk_at "st"
  refine ⟨m, dx, _, rfl, a1, nlS _ _ _ _ _, ?_⟩
  walk_at "st"
  intro pa hpa
  have spa := Same.new (o := .lst [V.int s0]) hpa
  walk_at "st"
  refine mch_spread_ok (ss := [s0]) T (hm.same spa) (.of upd_same) (by simp) b.zf fun p1 H1 xs1 s1 f1 e1 u1 m1 => ?_
  walk_at "st"
  walk_at "sq"
  have s01 := spa.trans s1
  obtain ⟨⟨dy, ey⟩, as, eD, la, ha⟩ := id hy
  refine rd_for ⟨.ref y, rfl, y, dy, _, rfl, s01 _ _ ey, row_iter_ok T (hy.same s01) fun it hit => ⟨D, it, rfl, hit, upd_same, ⟨_, .of (Same.new hit _ _ (s01 _ _ eD))⟩, ?_⟩⟩
  rw [dropH_upd hit]
  refine for_it (walk_list (K := K) (a := D) (xs := as.map V.ref)) (fun i σ H2 => Same H H2 ∧ ∃ (v4 : Option V) (px : Addr) (xs : List Int), σ = [some (.ref m), some (.int s0), some (.ref y), some (.ref px), v4, none, none, none, none] ∧ H px = none ∧ H2 px = some (.lst (xs.map V.int)) ∧ xs.Pairwise (· < ·) ∧ ∀ j, j ∈ xs ↔ RunP es fs (St0 fs [s0]) ((ps.take i).map tst) j)
    ⟨s01, none, p1, xs1, rfl, spa.free f1, e1, u1, fun j => by rw [List.take_zero]; exact m1 j⟩ (fun i σ H2 _ q => .of (q.1 _ _ eD)) ?_ ?_
  · rintro i x σ H2 H3 hi ⟨s2, v4, px, xs, rfl, fx, ex, ux, mx⟩ ⟨rfl, hx⟩
    rw [List.length_map] at hi
    rw [List.getElem?_map, List.getElem?_eq_getElem hi] at hx
    cases hx
    have hpi : ps[i]? = some ps[i] := List.getElem?_eq_getElem (by omega)
    have etk : ps.take (i + 1) = ps.take i ++ [ps[i]] := List.take_succ_eq_append_getElem (by omega)
    have hq := ha i _ _ (List.getElem?_eq_getElem hi) hpi
    have ok1 := strOk_one (okp _ (List.mem_of_getElem? hpi))
    generalize ps[i] = pr at hpi etk hq ok1
    walk_at "st"
    refine ⟨m, dx, _, rfl, s2 _ _ a1, nlS _ _ _ _ _, ?_⟩
    walk_at "st"
    refine step_row T (hm.same s2) ex (by have := b.len ux hX mx; omega) b.ze (s2 _ _ hq) ok1 b.k fun Dg H4 gs s4 e4 z4 m4 => ?_
    walk_at "st"
    refine mch_spread_ok (ss := gs) T (hm.same (s2.trans s4)) (.of e4) (by omega) b.zf fun p5 H5 xs5 s5 f5 e5 u5 m5 => ?_
    walk_at "st"
    refine ⟨(s2.trans s4).trans s5, _, p5, xs5, rfl, (s2.trans s4).free f5, e5, u5, fun j => (m5 j).trans ?_⟩
    rw [etk, List.map_append]
    exact spread1 mx m4 j
  · rintro σ H2 ⟨s2, v4, px, xs, rfl, fx, ex, ux, mx⟩
    rw [List.length_map, la, List.take_length] at mx
    walk_at "st"
    exact h px H2 xs s2 fx ex ux mx
/-! Machine.__contains__ -/
theorem nl_spread (n : Int) (F A L O W : Addr) : (mF n F A L O W).lookup ("spread" : Str) = none := by
  have e1 : (("spread" : Str) == "many") = false := by decide +kernel
  have e2 : (("spread" : Str) == "finals") = false := by decide +kernel
  have e3 : (("spread" : Str) == "arcs") = false := by decide +kernel
  have e4 : (("spread" : Str) == "leads") = false := by decide +kernel
  have e5 : (("spread" : Str) == "outs") = false := by decide +kernel
  have e6 : (("spread" : Str) == "onward") = false := by decide +kernel
  simp [mF, List.lookup, e1, e2, e3, e4, e5, e6]
theorem nl_ends (n : Int) (F A L O W : Addr) : (mF n F A L O W).lookup ("ends" : Str) = none := by
  have e1 : (("ends" : Str) == "many") = false := by decide +kernel
  have e2 : (("ends" : Str) == "finals") = false := by decide +kernel
  have e3 : (("ends" : Str) == "arcs") = false := by decide +kernel
  have e4 : (("ends" : Str) == "leads") = false := by decide +kernel
  have e5 : (("ends" : Str) == "outs") = false := by decide +kernel
  have e6 : (("ends" : Str) == "onward") = false := by decide +kernel
  simp [mF, List.lookup, e1, e2, e3, e4, e5, e6]
theorem lcG_at {a : Addr} {g : TG} {te : TE} {vs : List Nat} {σ : L2.St} {H : Hp} {Q : VK} (h : LcG K (.ref a) g te vs σ H Q) : ∃ b, V.ref a = .ref b ∧ (∃ xs, SqL K H b xs) ∧ ∀ D, H D = none → LcAt (Itl K b) g tYes te vs σ H D Q := h
def tstS (c : Nat) : Tst := fun sh => decide (sh.1 = tx [c])
theorem mch_any_ok {P : Program} {mg : Str → Option Value} (T : Txt P K mg) {m px : Addr} {fp : List Addr} {n : Int} {fin xs : List Int} {es : List Ed} {fs : List (Int × Int)} {v1 v3 : Option V} {H : Hp} {D : Ends} (hm : MchAt K H m fp n fin es fs) (hp : H px = some (.lst (xs.map V.int))) (z : xs.length ≤ 100)
    (h : ∀ H' (b : Bool), Same H H' → (b = true ↔ ∃ i, i ∈ xs ∧ i ∈ fin) → D.rt (.bl b) H') :
    tRet (tCB (rAnyA K) (tCons (tLc (iList K (tVar 2)) (gName 4) tYes (tOp (rInA K) (tVar 4) (tFld K (tVar 0) "finals")) [4]) tNil)) D [some (.ref m), v1, some (.ref px), v3, none, none, none, none] H := by
  obtain ⟨dx, F, A, L, O, W, us, vs, ov, ts, ow, a1, a2, _⟩ := hm.ex
  walk_at "st"
  refine lcG_at (lcV (xs.map fun i => V.bl (decide (i ∈ fin))) (.of hp) (by simp) (by simp; omega) ?_ ?_)
  · intro i x y H2 C s2 hx hy hC
    obtain ⟨a, ha, rfl⟩ := getI hx
    rw [List.getElem?_map, ha] at hy
    cases hy
    walk_at "st"
    refine ⟨rfl, ?_⟩
    walk_at "st"
    refine ⟨m, _, dx, _, _, rfl, s2 _ _ a1, T.c_Machine, T.n_Machine_finals, lk_finals _ _ _, ?_⟩
    exact inA_ints (.of (s2 _ _ a2)) (hC _ (Same.refl _))
  · intro Da H2 s2 f2 e2
    refine ⟨Da, xs.map fun i => decide (i ∈ fin), rfl, .of (by rw [e2, List.map_map]; rfl), ?_⟩
    refine h H2 _ s2 ?_
    rw [List.any_map, List.any_eq_true]
    exact ⟨fun ⟨i, h1, h2⟩ => ⟨i, h1, of_decide_eq_true h2⟩, fun ⟨i, h1, h2⟩ => ⟨i, h1, decide_eq_true h2⟩⟩
theorem mch_has_str {P : Program} {mg : Str → Option Value} (T : Txt P K mg) {m : Addr} {fp : List Addr} {n : Int} {fin : List Int} {es : List Ed} {fs : List (Int × Int)} {t : List Nat} {H : Hp} {Q : VK} {E : XK} (hm : MchAt K H m fp n fin es fs) (b : Below n es fs) (h0 : 0 < n) (zt : t.length ≤ 100)
    (h : ∀ H' (k : Bool), Same H H' → (k = true ↔ ∃ i, RunP es fs (St0 fs [0]) (t.map tstS) i ∧ i ∈ fin) → Q (.bl k) H') : sp_Machine_contains K [.ref m, .str (tx t)] H Q E := by
  have hX : ∀ z, St0 fs [0] z → 0 ≤ z ∧ z < n := fun z hz => rch_ins b.f (fun y hy => by rw [List.mem_singleton.mp hy]; exact ⟨Int.le_refl _, h0⟩) hz
  refine ⟨rfl, ?_⟩
  unfold t_Machine_contains
  obtain ⟨dx, F, A, L, O, W, us, vs, ov, ts, ow, a1, _⟩ := hm.ex
  walk_at "sq"
  walk_at "st"
  refine ⟨m, dx, _, rfl, a1, nl_spread _ _ _ _ _ _, ?_⟩
  walk_at "st"
  intro pa hpa
  have spa := Same.new (o := .lst [V.int 0]) hpa
  walk_at "st"
  refine mch_spread_ok (ss := [0]) T (hm.same spa) (.of upd_same) (by simp) b.zf fun p1 H1 xs1 s1 f1 e1 u1 m1 => ?_
  walk_at "st"
  walk_at "sq"
  have s01 := spa.trans s1
  walk_at "st"
  refine isi_go (.ty "str") (.base (.str _)) (kit_ty (r := true) (by decide +kernel)) ?_
  walk_at "st"
  refine ⟨_, rfl, ?_⟩
  refine for_it (walk_str (z := tx t)) (fun i σ H2 => Same H H2 ∧ ∃ (v3 : Option V) (px : Addr) (xs : List Int), σ = [some (.ref m), some (.str (tx t)), some (.ref px), v3, none, none, none, none] ∧ H2 px = some (.lst (xs.map V.int)) ∧ xs.Pairwise (· < ·) ∧ ∀ j, j ∈ xs ↔ RunP es fs (St0 fs [0]) ((t.take i).map tstS) j)
    ⟨s01, none, p1, xs1, rfl, e1, u1, fun j => by rw [List.take_zero]; exact m1 j⟩ (fun _ _ _ _ _ => trivial) ?_ ?_
  · rintro i x σ H2 H3 hi ⟨s2, v3, px, xs, rfl, ex, ux, mx⟩ ⟨rfl, c, hc, rfl⟩
    rw [tx_get] at hc
    have lt := (List.getElem?_eq_some_iff.mp hc).1
    have etk : t.take (i + 1) = t.take i ++ [c] := by rw [List.take_succ_eq_append_getElem lt, (List.getElem?_eq_some_iff.mp hc).2]
    walk_at "st"
    refine ⟨m, dx, _, rfl, s2 _ _ a1, nl_spread _ _ _ _ _ _, ?_⟩
    walk_at "st"
    refine step_txt T (hm.same s2) ex (by have := b.len ux hX mx; omega) b.ze fun Dg H4 gs s4 e4 z4 m4 => ?_
    walk_at "st"
    refine mch_spread_ok (ss := gs) T (hm.same (s2.trans s4)) (.of e4) (by omega) b.zf fun p5 H5 xs5 s5 f5 e5 u5 m5 => ?_
    walk_at "st"
    refine ⟨(s2.trans s4).trans s5, _, p5, xs5, rfl, e5, u5, fun j => (m5 j).trans ?_⟩
    rw [etk, List.map_append]
    exact spread1 mx m4 j
  · rintro σ H2 ⟨s2, v3, px, xs, rfl, ex, ux, mx⟩
    have ez : (tx t).cps.size = t.length := tx_len t
    rw [ez, List.take_length] at mx
    refine mch_any_ok T (hm.same s2) ex (by have := b.len ux hX mx; omega) fun H3 k s3 hk => ?_
    exact h H3 k (s2.trans s3) (hk.trans ⟨fun ⟨i, p, q⟩ => ⟨i, (mx i).mp p, q⟩, fun ⟨i, p, q⟩ => ⟨i, (mx i).mpr p, q⟩⟩)
theorem mch_has_row {P : Program} {mg : Str → Option Value} (T : Txt P K mg) {m y D : Addr} {fp : List Addr} {n : Int} {fin : List Int} {es : List Ed} {fs : List (Int × Int)} {ps : List (Nat × Int)} {H : Hp} {Q : VK} {E : XK} (hm : MchAt K H m fp n fin es fs) (hy : RowAt K H y D ps) (b : Below n es fs) (h0 : 0 < n) (zp : ps.length ≤ 100) (okp : ∀ p ∈ ps, p.1 ∈ letters)
    (h : ∀ H' (k : Bool), Same H H' → (k = true ↔ ∃ i, RunP es fs (St0 fs [0]) (ps.map tst) i ∧ i ∈ fin) → Q (.bl k) H') : sp_Machine_contains K [.ref m, .ref y] H Q E := by
  have hX : ∀ z, St0 fs [0] z → 0 ≤ z ∧ z < n := fun z hz => rch_ins b.f (fun y hy => by rw [List.mem_singleton.mp hy]; exact ⟨Int.le_refl _, h0⟩) hz
  refine ⟨rfl, ?_⟩
  unfold t_Machine_contains
  obtain ⟨dx, F, A, L, O, W, us, vs, ov, ts, ow, a1, _⟩ := hm.ex
  obtain ⟨⟨dy, ey⟩, _⟩ := id hy
  walk_at "sq"
  walk_at "st"
  refine ⟨m, dx, _, rfl, a1, nl_spread _ _ _ _ _ _, ?_⟩
  walk_at "st"
  intro pa hpa
  have spa := Same.new (o := .lst [V.int 0]) hpa
  walk_at "st"
  refine mch_spread_ok (ss := [0]) T (hm.same spa) (.of upd_same) (by simp) b.zf fun p1 H1 xs1 s1 f1 e1 u1 m1 => ?_
  walk_at "st"
  walk_at "sq"
  have s01 := spa.trans s1
  walk_at "st"
  refine isi_go (.ty "str") (Rz.tyX_own T.ty_Row (s01 _ _ ey)) T.i_Row_str ?_
  walk_at "st"
  refine ⟨m, dx, _, rfl, s01 _ _ a1, nl_ends _ _ _ _ _ _, ?_⟩
  walk_at "st"
  refine mch_ends_ok T (hm.same s01) (hy.same s01) b ⟨Int.le_refl _, h0⟩ zp okp fun px H2 xs s2 fx ex ux mx => ?_
  refine rd_name ?_
  refine mch_any_ok T (hm.same (s01.trans s2)) ex (by have := b.len ux hX mx; omega) fun H3 k s3 hk => ?_
  exact h H3 k ((s01.trans s2).trans s3) (hk.trans ⟨fun ⟨i, p, q⟩ => ⟨i, (mx i).mp p, q⟩, fun ⟨i, p, q⟩ => ⟨i, (mx i).mpr p, q⟩⟩)
/-! _law_join -/
theorem tr_in {fs : List Int} {i : Int} (h : i ∈ fs) : putK (trK fs) (.inl i) (.bl true) = trK fs := by
  have e : ((trK fs).any fun kv => decide (kv.1 = (.inl i : Key))) = true := by
    rw [List.any_eq_true]
    exact ⟨(.inl i, .bl true), List.mem_map.mpr ⟨i, h, rfl⟩, decide_eq_true rfl⟩
  unfold putK
  rw [if_pos e]
  unfold trK
  rw [List.map_map]
  refine List.map_congr_left fun x _ => ?_
  show (if (Sum.inl x : Key) = .inl i then _ else _) = _
  by_cases q : x = i
  · subst q; rw [if_pos rfl]
  · rw [if_neg fun z => q (Sum.inl.inj z)]
/-- a found int, once -/
def addI (fs : List Int) (i : Int) : List Int := if i ∈ fs then fs else fs ++ [i]
theorem tr_add (fs : List Int) (i : Int) : putK (trK fs) (.inl i) (.bl true) = trK (addI fs i) := by
  unfold addI
  by_cases h : i ∈ fs
  · rw [if_pos h, tr_in h]
  · rw [if_neg h, tr_put h]
theorem mem_addI {fs : List Int} {i x : Int} : x ∈ addI fs i ↔ x ∈ fs ∨ x = i := by
  unfold addI
  by_cases h : i ∈ fs
  · rw [if_pos h]; exact ⟨.inl, fun z => z.elim id fun w => w ▸ h⟩
  · rw [if_neg h, List.mem_append, List.mem_singleton]
theorem nd_addI {fs : List Int} {i : Int} (n : fs.Nodup) : (addI fs i).Nodup := by
  unfold addI
  by_cases h : i ∈ fs
  · rw [if_pos h]; exact n
  · rw [if_neg h]
    refine List.nodup_append.mpr ⟨n, by simp, fun u hu w hw e => ?_⟩
    rw [List.mem_singleton.mp hw] at e
    exact h (e ▸ hu)
theorem len_addI (fs : List Int) (i : Int) : (addI fs i).length ≤ fs.length + 1 := by
  unfold addI
  by_cases h : i ∈ fs
  · rw [if_pos h]; omega
  · rw [if_neg h]; simp
/-- the dict of what each state leads to -/
structure SprAt (H : Hp) (d : Addr) (n : Int) (fs : List (Int × Int)) : Prop where
  ex : ∃ ks : List DLE, DL H d ks ∧ ks.length ≤ 40 ∧ ∀ s, 0 ≤ s → s < n → ∃ b l, (s, b, l) ∈ ks ∧ (∀ i, i ∈ l ↔ Rch (ld fs) [s] i) ∧ l.length ≤ 40
theorem SprAt.same {H H' : Hp} {d : Addr} {n : Int} {fs : List (Int × Int)} (h : SprAt H d n fs) (s : Same H H') : SprAt H' d n fs := let ⟨ks, a, b⟩ := h.ex; ⟨ks, a.same s, b⟩
theorem nodup_key {α β : Type} {f : α → β} : ∀ {l : List α}, (l.map f).Nodup → ∀ {a b : α}, a ∈ l → b ∈ l → f a = f b → a = b
  | [], _, _, _, h, _, _ => nomatch h
  | x :: r, nd, a, b, ha, hb, e => by
    rw [List.map_cons, List.nodup_cons] at nd
    rcases List.mem_cons.mp ha with h1 | h1 <;> rcases List.mem_cons.mp hb with h2 | h2
    · rw [h1, h2]
    · exact absurd (List.mem_map.mpr ⟨b, h2, by rw [← e, h1]⟩) nd.1
    · exact absurd (List.mem_map.mpr ⟨a, h1, by rw [e, h2]⟩) nd.1
    · exact nodup_key nd.2 h1 h2 e
theorem dl_there {H : Hp} {d : Addr} {ks : List DLE} {s : Int} {b : Addr} {l : List Int} (h : DL H d ks) (m : (s, b, l) ∈ ks) : valV (dlK ks) (.inl s) = some (.ref b) ∧ H b = some (.lst (l.map V.int)) := by
  refine ⟨?_, h.ls _ m⟩
  rcases dl_val ks s with ⟨_, _, z⟩ | ⟨a, l', m', v, _⟩
  · exact absurd rfl (z _ m)
  · rw [v]
    have : (s, a, l') = (s, b, l) := nodup_key h.kd m' m rfl
    cases this
    rfl
theorem lawjoin_ok {a d : Addr} {n : Int} {fs : List (Int × Int)} {ss : List Int} {H : Hp} {Q : VK} {E : XK} (hS : H a = some (.lst (ss.map V.int))) (hD : SprAt H d n fs) (hs : ∀ s ∈ ss, 0 ≤ s ∧ s < n) (z : ss.length ≤ 10000)
    (h : ∀ p H' (xs : List Int), Same H H' → H p = none → H' p = some (.lst (xs.map V.int)) → xs.Pairwise (· < ·) → (∀ i, i ∈ xs ↔ Rch (ld fs) ss i) → Q (.ref p) H') : sp_law_join K [.ref d, .ref a] H Q E := by
  refine ⟨rfl, ?_⟩
  unfold t_law_join
  obtain ⟨ks, D, _, dk⟩ := hD.ex
  walk_at "sq"
  walk_at "st"
  intro F hF
  have sF := Same.new (o := .dK []) hF
  walk_at "st"
  walk_at "sq"
  walk_at "st"
  refine ⟨a, rfl, ⟨_, .of (sF _ _ hS)⟩, ?_⟩
  refine for_it (walk_list (K := K) (a := a) (xs := ss.map V.int)) (fun i σ H2 => Same H H2 ∧ (∃ v3 v4, σ = [some (.ref d), some (.ref a), some (.ref F), v3, v4]) ∧ ∃ gs : List Int, H2 F = some (.dK (trK gs)) ∧ gs.Nodup ∧ gs.length ≤ i * 40 ∧ ∀ g, g ∈ gs ↔ ∃ s ∈ ss.take i, Rch (ld fs) [s] g)
    ⟨sF, ⟨none, none, rfl⟩, [], upd_same, List.Pairwise.nil, by simp, fun g => by simp⟩ (fun i σ H2 _ q => .of (q.1 _ _ hS)) ?_ ?_
  · rintro i x σ H2 H3 hi ⟨s2, ⟨v3, v4, rfl⟩, gs, eF, nd, gl, gm⟩ ⟨rfl, hx⟩
    obtain ⟨s, hsi, rfl⟩ := getI hx
    rw [List.length_map] at hi
    have etk : ss.take (i + 1) = ss.take i ++ [s] := by rw [List.take_succ_eq_append_getElem hi, (List.getElem?_eq_some_iff.mp hsi).2]
    obtain ⟨s0, s1⟩ := hs _ (List.mem_of_getElem? hsi)
    obtain ⟨b, l, mb, ml, lz⟩ := dk s s0 s1
    have D2 := D.same s2
    obtain ⟨vb, eb⟩ := dl_there D2 mb
    have nF : b ≠ F := fun w => by rw [w, eF] at eb; cases eb
    walk_at "st"
    refine ⟨d, _, rfl, vb ▸ DGet.k (k := .inl s) D2.dk, ?_⟩
    refine ⟨b, rfl, ⟨_, .of eb⟩, ?_⟩
    refine for_it (walk_list (K := K) (a := b) (xs := l.map V.int)) (fun j σ H4 => Same H H4 ∧ H4 b = some (.lst (l.map V.int)) ∧ (∃ v4, σ = [some (.ref d), some (.ref a), some (.ref F), some (.int s), v4]) ∧ ∃ gs' : List Int, H4 F = some (.dK (trK gs')) ∧ gs'.Nodup ∧ gs'.length ≤ i * 40 + j ∧ ∀ g, g ∈ gs' ↔ g ∈ gs ∨ g ∈ l.take j)
      ⟨s2, eb, ⟨v4, rfl⟩, gs, eF, nd, by omega, fun g => by simp⟩ (fun j σ H4 _ q => .of q.2.1) ?_ ?_
    · rintro j x σ H4 H5 hj ⟨s4, eb4, ⟨v4', rfl⟩, gs', eF4, nd4, gl4, gm4⟩ ⟨rfl, hx⟩
      obtain ⟨g, hg, rfl⟩ := getI hx
      rw [List.length_map] at hj
      have etj : l.take (j + 1) = l.take j ++ [g] := by rw [List.take_succ_eq_append_getElem hj, (List.getElem?_eq_some_iff.mp hg).2]
      walk_at "st"
      refine ⟨F, _, rfl, DPut.k (k := .inl g) eF4 (by unfold trK; rw [List.length_map, sizeLine_eq]; omega), ?_⟩
      rw [tr_add]
      refine ⟨fun b' o e => ?_, by rw [upd_ne nF]; exact eb4, ⟨_, rfl⟩, addI gs' g, upd_same, nd_addI nd4, by have := len_addI gs' g; omega, fun x => ?_⟩
      · rw [upd_ne (ne_of_none e hF)]
        exact s4 _ _ e
      · rw [mem_addI, gm4, etj, List.mem_append, List.mem_singleton, or_assoc]
    · rintro σ H4 ⟨s4, eb4, ⟨v4', rfl⟩, gs', eF4, nd4, gl4, gm4⟩
      rw [List.length_map, List.take_length] at gm4
      rw [List.length_map] at gl4
      refine ⟨s4, ⟨_, _, rfl⟩, gs', eF4, nd4, by omega, fun g => ?_⟩
      rw [gm4, gm, etk, ml]
      constructor
      · rintro (⟨s', h1, h2⟩ | w)
        · exact ⟨s', List.mem_append_left _ h1, h2⟩
        · exact ⟨s, by simp, w⟩
      · rintro ⟨s', h1, h2⟩
        rcases List.mem_append.mp h1 with w | w
        · exact .inl ⟨s', w, h2⟩
        · rw [List.mem_singleton.mp w] at h2
          exact .inr h2
  · rintro σ H2 ⟨s2, ⟨v3, v4, rfl⟩, gs, eF, nd, gl, gm⟩
    rw [List.length_map, List.take_length] at gm
    rw [List.length_map] at gl
    walk_at "st"
    refine rd_listDk eF fun p hp => ?_
    have sp := Same.new (o := .lst ((trK gs).map fun kv => kV kv.1)) hp
    have ep : upd H2 p (.lst ((trK gs).map fun kv => kV kv.1)) p = some (.lst (gs.map V.int)) := by rw [upd_same]; unfold trK; rw [List.map_map]; rfl
    walk_at "st"
    refine sorted_ints ep fun p2 hp2 => ?_
    have s3 := Same.new (o := .lst ((sortI gs).map V.int)) hp2
    have s := (s2.trans sp).trans s3
    refine h p2 _ (sortI gs) s ((s2.trans sp).free hp2) upd_same (sortI_up nd) fun i => mem_sortI.trans ((gm i).trans ?_)
    rw [rch_one]
/-! _law_graph_of -/
theorem tDSetd_mono {i j : Nat} {σ : L2.St} {H : Hp} {Q Q' : VK} (h : tDSetd (tVar i) (tVar j) (tLst tNil) σ H Q) (k : ∀ v H', Q v H' → Q' v H') : tDSetd (tVar i) (tVar j) (tLst tNil) σ H Q' := by
  obtain ⟨x, hx, a, ex, ia, y, hy, zl, r⟩ := h
  refine ⟨x, hx, a, ex, ia, y, hy, zl, fun p hp => ?_⟩
  obtain ⟨kvs, kk, e1, e2, e3, e4, e5⟩ := r p hp
  exact ⟨kvs, kk, e1, e2, e3, fun v hv => k _ _ (e4 v hv), fun hv => k _ _ (e5 hv)⟩
theorem rAppend_mono {x : V} {vs : List V} {H : Hp} {Q Q' : VK} (h : rAppend x vs H Q) (k : ∀ v H', Q v H' → Q' v H') : rAppend x vs H Q' := by
  obtain ⟨l, xs, y, e1, e2, e3, e4, e5⟩ := h
  exact ⟨l, xs, y, e1, e2, e3, e4, k _ _ e5⟩
theorem dl_near {i j : Nat} {d : Addr} {ks : List DLE} {s : Int} (g : Int) {σ : L2.St} {H : Hp} (h1 : σ[i]? = some (some (.ref d))) (h2 : σ[j]? = some (some (.int s))) (hD : DL H d ks) (hn : ks.length + dlTot ks < 1000000) :
    tDSetd (tVar i) (tVar j) (tLst tNil) σ H fun x H1 => tyV K "list" x H1 ∧ rAppend x [.int g] H1 fun _ H' => ∃ ks', DL H' d ks' ∧ (∀ x, gr ks' x = if x = s then gr ks x ++ [g] else gr ks x) ∧ Frm (d :: dlA ks) H H' (d :: dlA ks') ∧ ks'.length ≤ ks.length + 1 ∧ dlTot ks' = dlTot ks + 1 :=
  dl_push (td := tVar i) (ty := tVar j) (tg := fun _ H Q => Q (.int g) H) (d := d) (ks := ks) (s := s) (g := g) (σ := σ) (D := { nx := fun _ H' => ∃ ks', DL H' d ks' ∧ (∀ x, gr ks' x = if x = s then gr ks x ++ [g] else gr ks x) ∧ Frm (d :: dlA ks) H H' (d :: dlA ks') ∧ ks'.length ≤ ks.length + 1 ∧ dlTot ks' = dlTot ks + 1, rt := fun _ _ => True })
    (fun _ _ w => ⟨_, h1, w⟩) (fun _ _ w => ⟨_, h2, w⟩) (fun _ _ w => w) hD hn fun _ ks' a b c e f => ⟨ks', a, b, c, e, f⟩
theorem fresh_step {H H9 H2 : Hp} {fp fp' : List Addr} (s : Same H H9) (f : ∀ b ∈ fp, H b = none) (k : Frm fp H9 H2 fp') : Same H H2 ∧ ∀ b ∈ fp', H b = none :=
  ⟨fun b o e => k.keep b o (fun w => by rw [f b w] at e; cases e) (s b o e), fun b hb => (k.from_ b hb).elim (f b) s.free⟩
/-- the dict of what goes out -/
structure OutsAt (H : Hp) (O : Addr) (es : List Ed) : Prop where
  ex : ∃ (ov : List DVE) (ts : List (Addr × Ed)), DV H O ov ∧ (∀ x, gv ov x = ((ts.filter fun t => decide (t.2.1 = x)).map fun t => V.ref t.1)) ∧ (∀ t ∈ ts, H t.1 = some (.tup ((kT t.2.2).map kV))) ∧ ts.map Prod.snd = es
theorem OutsAt.same {H H' : Hp} {O : Addr} {es : List Ed} (h : OutsAt H O es) (s : Same H H') : OutsAt H' O es := let ⟨ov, ts, a, b, c, d⟩ := h.ex; ⟨ov, ts, a.same s, b, fun t ht => s _ _ (c t ht), d⟩
structure GrAt (H : Hp) (g O S : Addr) (n : Int) (es : List Ed) (fs : List (Int × Int)) : Prop where
  g : H g = some (.tup [.ref O, .ref S])
  o : OutsAt H O es
  s : SprAt H S n fs
theorem GrAt.same {H H' : Hp} {g O S : Addr} {n : Int} {es : List Ed} {fs : List (Int × Int)} (h : GrAt H g O S n es fs) (s : Same H H') : GrAt H' g O S n es fs := ⟨s _ _ h.g, h.o.same s, h.s.same s⟩
theorem graph_ok {n : Int} {ea fa : Addr} {us vs : List MU} {es : List Ed} {fs : List (Int × Int)} {H : Hp} {Q : VK} {E : XK} (he : TEd H ea us es) (hf : TPr H fa vs fs) (b : Below n es fs) (n0 : 0 ≤ n)
    (h : ∀ g O S H', Same H H' → GrAt H' g O S n es fs → (∀ d xs H2, H d = some (.lst xs) → Keep d H' H2 → GrAt H2 g O S n es fs) → Q (.ref g) H') : sp_law_graph_of K [.int n, .ref ea, .ref fa] H Q E := by
  refine ⟨rfl, ?_⟩
  unfold t_law_graph_of
  have al : us.length = es.length := len_keys he.k
  have fl : vs.length = fs.length := len_keys hf.k
  have zE := b.ze
  have zF := b.zf
  walk_at "sq"
  walk_at "st"
  intro O hO
  have sO := Same.new (o := .dK []) hO
  have eO : DV (upd H O (.dK [])) O [] := ⟨upd_same, fun _ z => (nomatch z), List.Pairwise.nil, List.Pairwise.nil⟩
  walk_at "st"
  walk_at "sq"
  walk_at "st"
  refine ⟨ea, rfl, ⟨_, .of (sO _ _ he.t.l)⟩, ?_⟩
  refine for_it (walk_list (K := K) (a := ea) (xs := us.map fun m => V.ref m.1)) (fun i σ H9 => Same H H9 ∧ (∃ v7 v8 v9 v10 v11, σ = [some (.int n), some (.ref ea), some (.ref fa), some (.ref O), none, none, none, v7, v8, v9, v10, v11]) ∧ ∃ (ov : List DVE) (ts : List (Addr × Ed)), DV H9 O ov ∧ (∀ x, gv ov x = ((ts.filter fun t => decide (t.2.1 = x)).map fun t => V.ref t.1)) ∧
      (∀ t ∈ ts, H9 t.1 = some (.tup ((kT t.2.2).map kV))) ∧ ts.map Prod.snd = es.take i ∧ (∀ b ∈ O :: dvA ov, H b = none) ∧ ov.length ≤ i)
    ⟨sO, ⟨none, none, none, none, none, rfl⟩, [], [], eO, fun _ => rfl, fun _ z => (nomatch z), by rw [List.take_zero]; rfl, fun b hb => by rw [List.mem_singleton.mp hb]; exact hO, Nat.le_refl _⟩ (fun i σ H9 _ q => .of (q.1 _ _ he.t.l)) ?_ ?_
  · rintro i x σ H9' H9 hi ⟨s9, ⟨v7, v8, v9, v10, v11, rfl⟩, ov, ts, D9, g9, t9, m9, f9, l9⟩ ⟨rfl, hx⟩
    rw [List.length_map] at hi
    obtain ⟨u, q, rfl, hu, hq⟩ := get_keys he.k hx
    have lt := (List.getElem?_eq_some_iff.mp hq).1
    have etk : es.take (i + 1) = es.take i ++ [q] := by rw [List.take_succ_eq_append_getElem lt, (List.getElem?_eq_some_iff.mp hq).2]
    obtain ⟨a, z, hh, g⟩ := q
    have eu : H9 u = some (.tup [V.int a, V.str z, V.int hh, V.int g]) := s9 _ _ (he.t.t _ (List.mem_of_getElem? hu))
    have tsl : ts.length ≤ i := by
      have := congrArg List.length m9
      rw [List.length_map, List.length_take] at this
      omega
    refine rd_gtup eu rfl (rd_gcons (rd_name (rd_gcons (rd_name (rd_gcons (rd_name (rd_gcons (rd_name (rd_gnil ?_)))))))))
    walk_at "sq"
    refine rd_asg ?_
    refine dv_get (s := a) (fun H1 Q _ s q => rd_var rfl q) (fun _ _ w => rd_var rfl w) D9 (by omega) fun H1 ad pre post D1 g1 f1 l1 => ?_
    obtain ⟨ea1, _⟩ := D1.app (.ref ea)
    walk_at "st"
    refine ⟨tyL ea1, ?_⟩
    walk_at "st"
    intro p hp
    have sp := Same.new (o := .tup [V.str z, V.int hh, V.int g]) hp
    have ep : upd H1 p (.tup [V.str z, V.int hh, V.int g]) p = some (.tup ((kT (z, hh, g)).map kV)) := upd_same
    have D1' := D1.same sp
    obtain ⟨s1, n1⟩ := fresh_step s9 f9 f1
    have s1p := s1.trans sp
    generalize upd H1 p (.tup [V.str z, V.int hh, V.int g]) = H2 at sp ep D1' s1p ⊢
    obtain ⟨ea2, D2, g2, f2⟩ := D1'.app (.ref p)
    obtain ⟨s2, n2⟩ := fresh_step s1p n1 f2
    walk_at "st"
    have gl : (gv ov a).length ≤ ts.length := by
      rw [g9, List.length_map]
      exact List.length_filter_le _ _
    refine append_go ea2 (by show (gv ov a).length < _; omega) ?_
    have np : p ∉ O :: dvA (pre ++ (a, ad, gv ov a) :: post) := D1'.out ep (fun _ z => nomatch z) (fun _ z => nomatch z)
    refine ⟨s2, ⟨_, _, _, _, _, rfl⟩, _, ts ++ [(p, (a, z, hh, g))], D2, fun x => ?_, fun t ht => ?_, ?_, n2, ?_⟩
    · rw [g2, g1, List.filter_append, List.map_append, g9 x]
      by_cases w : x = a
      · rw [if_pos w, w, g9 a, List.filter_cons_of_pos (by simp)]
        rfl
      · rw [if_neg w, List.filter_cons_of_neg (by simp; exact fun y => w y.symm), List.filter_nil]
        simp
    · rcases List.mem_append.mp ht with w | w
      · have n9 := D9.out (t9 t w) (fun _ z => nomatch z) (fun _ z => nomatch z)
        have e1 := f1.keep _ _ n9 (t9 t w)
        exact f2.keep _ _ (fun y => by rcases f1.from_ _ y with q | q; exact n9 q; rw [t9 t w] at q; cases q) (sp _ _ e1)
      · rw [List.mem_singleton.mp w]
        exact f2.keep _ _ np ep
    · rw [List.map_append, m9, etk]
      rfl
    · simp only [List.length_append, List.length_cons] at l1 ⊢
      omega
  rintro σ H9 ⟨s9, ⟨v7, v8, v9, v10, v11, rfl⟩, ov, ts, D9, g9, t9, m9, f9, l9⟩
  rw [List.length_map, al, List.take_length] at m9
  have OA : OutsAt H9 O es := ⟨ov, ts, D9, g9, t9, m9⟩
  have OK : ∀ d xs H2, H d = some (.lst xs) → Keep d H9 H2 → OutsAt H2 O es := fun d xs H2 e k => ⟨ov, ts, D9.keep (fun b o hb e1 => k b o (fun z => by rw [z] at hb; rw [f9 d hb] at e; cases e) e1), g9, fun t ht => k _ _ (fun z => by have := t9 t ht; rw [z, s9 _ _ e] at this; cases this) (t9 t ht), m9⟩
  clear D9 g9 t9 m9 f9 l9 eO sO hO
  have hf9 : TPr H9 fa vs fs := ⟨hf.t.same s9, hf.k⟩
  walk_at "sq"
  walk_at "st"
  intro W hW
  have sW := Same.new (o := .dK []) hW
  have eW : DL (upd H9 W (.dK [])) W [] := .new
  walk_at "st"
  walk_at "sq"
  walk_at "st"
  refine ⟨fa, rfl, ⟨_, .of (sW _ _ hf9.t.l)⟩, ?_⟩
  refine for_it (walk_list (K := K) (a := fa) (xs := vs.map fun m => V.ref m.1)) (fun i σ HB => Same H9 HB ∧ (∃ v7 v8 v9 v10 v11, σ = [some (.int n), some (.ref ea), some (.ref fa), some (.ref O), some (.ref W), none, none, v7, v8, v9, v10, v11]) ∧ ∃ (ow : List DLE), DL HB W ow ∧ (∀ x, gr ow x = ((fs.take i).filter fun p => decide (p.1 = x)).map Prod.snd) ∧ dlTot ow = i ∧ (∀ b ∈ W :: dlA ow, H9 b = none) ∧ ow.length ≤ i)
    ⟨sW, ⟨_, _, _, _, _, rfl⟩, [], eW, fun _ => by rw [List.take_zero]; rfl, rfl, fun b hb => by rw [List.mem_singleton.mp hb]; exact hW, Nat.le_refl _⟩ (fun i σ HB _ q => .of (q.1 _ _ hf9.t.l)) ?_ ?_
  · rintro i x σ HB' HB hi ⟨sB, ⟨v7, v8, v9, v10, v11, rfl⟩, ow, DB, gB, tot, fB, lB⟩ ⟨rfl, hx⟩
    rw [List.length_map] at hi
    obtain ⟨u, q, rfl, hu, hq⟩ := get_keys hf9.k hx
    have lt := (List.getElem?_eq_some_iff.mp hq).1
    have etk : fs.take (i + 1) = fs.take i ++ [q] := by rw [List.take_succ_eq_append_getElem lt, (List.getElem?_eq_some_iff.mp hq).2]
    obtain ⟨a, g⟩ := q
    have eu : HB u = some (.tup [V.int a, V.int g]) := sB _ _ (hf9.t.t _ (List.mem_of_getElem? hu))
    refine rd_gtup eu rfl (rd_gcons (rd_name (rd_gcons (rd_name (rd_gnil ?_)))))
    walk_at "sq"
    refine rd_asg ?_
    refine (tDSetd_mono (dl_near (K := K) g rfl rfl DB (by omega)) fun x1 HC qC => ?_)
    walk_at "st"
    refine ⟨qC.1, ?_⟩
    walk_at "st"
    refine rAppend_mono qC.2 fun _ H7 good => ?_
    obtain ⟨ow', DC, gC, fC, lC, tC⟩ := good
    obtain ⟨sC, nC⟩ := fresh_step sB fB fC
    refine ⟨sC, ⟨_, _, _, _, _, rfl⟩, ow', DC, fun x => ?_, by omega, nC, by omega⟩
    rw [gC, gB x, etk, List.filter_append, List.map_append]
    by_cases w : x = a
    · rw [if_pos w, w, List.filter_cons_of_pos (by simp)]
      rfl
    · rw [if_neg w, List.filter_cons_of_neg (by simp; exact fun y => w y.symm), List.filter_nil]
      simp
  rintro σ HB ⟨sB, ⟨v7, v8, v9, v10, v11, rfl⟩, ow, DB, gB, tot, fB, lB⟩
  rw [List.length_map, fl] at tot
  have gB' : gr ow = ld fs := funext fun x => by rw [gB x, List.length_map, fl, List.take_length]; rfl
  clear gB fB eW sW hW
  walk_at "sq"
  walk_at "st"
  intro S hS
  have sS := Same.new (o := .dK []) hS
  have eS : DL (upd HB S (.dK [])) S [] := .new
  walk_at "st"
  walk_at "sq"
  walk_at "st"
  refine ⟨n, rfl, by omega, by have := b.zn; omega, ?_⟩
  refine forR (n := n) (fun i σ H5 => Same HB H5 ∧ (∃ v6, σ = [some (.int n), some (.ref ea), some (.ref fa), some (.ref O), some (.ref W), some (.ref S), v6, v7, v8, v9, v10, v11]) ∧ ∃ ks : List DLE, DL H5 S ks ∧ (∀ b ∈ S :: dlA ks, HB b = none) ∧ ks.length = i ∧ (∀ e ∈ ks, e.1 < i) ∧ ∀ s : Int, 0 ≤ s → s < i → ∃ b l, (s, b, l) ∈ ks ∧ (∀ i, i ∈ l ↔ Rch (ld fs) [s] i) ∧ l.length ≤ 40)
    ⟨sS, ⟨_, rfl⟩, [], eS, fun b hb => by rw [List.mem_singleton.mp hb]; exact hS, rfl, fun _ z => (nomatch z), fun s a c => by omega⟩ ?_ ?_
  · rintro i σ H5 hi ⟨s5, ⟨v6, rfl⟩, ks, D5, n5, l5, b5, k5⟩
    walk_at "st"
    intro pa hpa
    have spa := Same.new (o := .lst [V.int i]) hpa
    walk_at "st"
    refine spread_ok (ss := [(i : Int)]) (.of upd_same) ((DB.same s5).same spa) (by rw [List.length_singleton]; omega) fun p H6 xs s6 f6 e6 u6 m6 => ?_
    rw [gB'] at m6
    walk_at "st"
    have D6 := (D5.same spa).same s6
    have fp : H5 p = none := spa.free f6
    refine ⟨S, _, rfl, DPut.k (k := .inl (i : Int)) D6.dk (by unfold dlK; rw [List.length_map, sizeLine_eq]; have := b.zn; omega), ?_⟩
    have vn : valV (dlK ks) (.inl (i : Int)) = none := by
      rcases dl_val ks i with ⟨q, _⟩ | ⟨b, l, z0, _⟩
      · exact q
      · have := b5 _ z0; exact absurd this (Int.lt_irrefl _)
    have ed : putK (dlK ks) (.inl (i : Int)) (.ref p) = dlK (ks ++ [((i : Int), p, xs)]) := by rw [putK_new _ vn]; simp [dlK]
    rw [ed]
    have pS : p ≠ S := fun w => by rw [w, D5.dk] at fp; cases fp
    have len : xs.length ≤ 40 := by
      have := up_len u6 fun x hx => rch_ins b.f (ss := [(i : Int)]) (fun y hy => by rw [List.mem_singleton.mp hy]; exact ⟨Int.natCast_nonneg _, hi⟩) ((m6 x).mp hx)
      have := b.zn
      omega
    refine ⟨fun b o e => ?_, ⟨_, rfl⟩, ks ++ [((i : Int), p, xs)], ⟨upd_same, fun e he => ?_, ?_, ?_⟩, fun b hb => ?_, by rw [List.length_append, l5]; rfl, fun e he => ?_, fun s a c => ?_⟩
    · rw [upd_ne (fun w => by rw [w, n5 S List.mem_cons_self] at e; cases e)]
      exact s6 _ _ (spa _ _ (s5 _ _ e))
    · rcases List.mem_append.mp he with w | w
      · have : e.2.1 ≠ S := fun z => D5.ne (z ▸ List.mem_map.mpr ⟨e, w, rfl⟩)
        rw [upd_ne this]
        exact D6.ls _ w
      · rw [List.mem_singleton.mp w]
        show upd H6 S _ p = _
        rw [upd_ne pS]
        exact e6
    · rw [List.map_append]
      refine List.nodup_append.mpr ⟨D5.kd, by simp, fun y hy z hz w => ?_⟩
      obtain ⟨x, hx, rfl⟩ := List.mem_map.mp hy
      rw [List.mem_singleton.mp hz] at w
      have w : x.1 = (i : Int) := w
      have := b5 x hx
      omega
    · unfold dlA
      rw [List.map_append]
      refine List.nodup_append.mpr ⟨D5.ad, by simp, fun y hy z hz w => ?_⟩
      obtain ⟨x, hx, rfl⟩ := List.mem_map.mp hy
      rw [List.mem_singleton.mp hz] at w
      have w : x.2.1 = p := w
      have := D5.ls x hx
      rw [w, fp] at this
      cases this
    · rcases List.mem_cons.mp hb with w | w
      · rw [w]; exact n5 S List.mem_cons_self
      · unfold dlA at w
        rw [List.map_append] at w
        rcases List.mem_append.mp w with w | w
        · exact n5 b (List.mem_cons_of_mem _ w)
        · rw [List.mem_singleton.mp w]
          exact s5.free fp
    · rcases List.mem_append.mp he with w | w
      · have := b5 e w; omega
      · rw [List.mem_singleton.mp w]
        show (i : Int) < _
        omega
    · by_cases w : s < i
      · obtain ⟨b, l, q1, q2⟩ := k5 s a w
        exact ⟨b, l, List.mem_append_left _ q1, q2⟩
      · have : s = i := by omega
        subst this
        exact ⟨p, xs, List.mem_append_right _ (List.mem_singleton.mpr rfl), m6, len⟩
  rintro σ H5 ⟨s5, ⟨v6, rfl⟩, ks, D5, n5, l5, b5, k5⟩
  walk_at "st"
  intro g hg
  have sg := Same.new (o := .tup [V.ref O, V.ref S]) hg
  have sAll := (((s9.trans sB).trans s5).trans sg)
  refine h g O S _ sAll ⟨upd_same, OA.same ((sB.trans s5).trans sg), ⟨ks, D5.same sg, by have := b.zn; omega, fun s a c => k5 s a (by omega)⟩⟩ fun d xs H2 e k => ?_
  have eB : HB d = some (.lst xs) := sB _ _ (s9 _ _ e)
  refine ⟨k _ _ (fun z => by rw [z, s5 _ _ eB] at hg; cases hg) upd_same, OK d xs H2 e ((Keep.same ((sB.trans s5).trans sg)).trans k), ⟨ks, (D5.same sg).keep fun b o hb e1 => k b o (fun z => by rw [z] at hb; rw [n5 d hb] at eB; cases eB) e1, by have := b.zn; omega, fun s a c => k5 s a (by omega)⟩⟩
/-! _law_read, _law_spelling -/
theorem read_step {g O S px M D : Addr} {n : Int} {xs : List Int} {es : List Ed} {fs : List (Int × Int)} {v5 v6 v7 v8 : Option V} {H : Hp} {E : Ends} {pq : Addr} {pr : Nat × Int} (hq : H pq = some (.tup [.str (tx [pr.1]), .int pr.2])) (hokq : PyData.strOk (tx [pr.1]) = true) (hg : GrAt H g O S n es fs) (hA : H px = some (.lst (xs.map V.int))) (zx : xs.length ≤ 100) (b : Below n es fs) (hD : H D = none)
    (h : ∀ H' (gs : List Int) v5 v6 v7 v8, Same H H' → H' D = some (.dK (trK gs)) → gs.length ≤ 6000 → (∀ g, g ∈ gs ↔ ∃ a, a ∈ xs ∧ ∃ s h, (a, s, h, g) ∈ es ∧ (tst pr) (s, h) = true) → E.nx ([some (.ref g), some (.ref px), some (.ref M), some (.ref pq), some (.ref D), v5, v6, v7, v8]) H') :
    tFor (iList K (tVar 1)) (gName 5) (tFor (iList K (tDGet2 (tOp (rIx K) (tVar 0) (tC (.int 0))) (tVar 5) (tLst tNil))) (gTup K 3 (gCons (gName 6) (gCons (gName 7) (gCons (gName 8) gNil)))) (tIfS (tTest (tOp (rEqA K) (tTup (tCons (tVar 6) (tCons (tVar 7) tNil))) (tVar 3))) (sDPut (tVar 4) (tVar 8) (tC (.bl true))) tNext)) E ([some (.ref g), some (.ref px), some (.ref M), some (.ref pq), some (.ref D), v5, v6, v7, v8]) (upd H D (.dK [])) := by
  obtain ⟨ov, ts, a5, a6, a7, a8⟩ := hg.o.ex
  have tl : ts.length = es.length := by rw [← a8, List.length_map]
  have ze := b.ze
  have sD := Same.new (o := (.dK [] : HO)) hD
  walk_at "st"
  refine ⟨px, rfl, ⟨_, .of (sD _ _ hA)⟩, ?_⟩
  refine for_it (walk_list (K := K) (a := px) (xs := xs.map V.int)) (fun i σ H3 => Same H H3 ∧ (∃ v5 v6 v7 v8, σ = [some (.ref g), some (.ref px), some (.ref M), some (.ref pq), some (.ref D), v5, v6, v7, v8]) ∧ ∃ gs : List Int, H3 D = some (.dK (trK gs)) ∧ gs.length ≤ i * 60 ∧ ∀ g, g ∈ gs ↔ ∃ a, a ∈ xs.take i ∧ ∃ s h, (a, s, h, g) ∈ es ∧ (tst pr) (s, h) = true)
    ⟨sD, ⟨_, _, _, _, rfl⟩, [], upd_same, by simp, fun g => ⟨fun z => (nomatch z), fun ⟨a, z, _⟩ => by rw [List.take_zero] at z; cases z⟩⟩ (fun i σ H3 _ q => .of (q.1 _ _ hA)) ?_ ?_
  · rintro i x σ H3' H3 hi ⟨s3, ⟨v5, v6, v7, v8, rfl⟩, gs, eD, gl, gm⟩ ⟨rfl, hx⟩
    obtain ⟨a, ha, rfl⟩ := getI hx
    rw [List.length_map] at hi
    have etk : xs.take (i + 1) = xs.take i ++ [a] := by rw [List.take_succ_eq_append_getElem hi, (List.getElem?_eq_some_iff.mp ha).2]
    walk_at "st"
    refine ixA_tup (SqT.of (s3 _ _ hg.g)) ix0 ?_
    have DO := a5.same s3
    refine ⟨O, rfl, .inl ⟨_, .inl DO.dk⟩, ?_⟩
    walk_at "st"
    intro p hp
    have sp := Same.new (o := .lst []) hp
    have pv : ∃ q : Addr, ((valV (dvK ov) (.inl a)).getD (.ref p)) = .ref q ∧ upd H3 p (.lst []) q = some (.lst (gv ov a)) ∧ q ≠ D := by
      rcases dv_val ov a with ⟨z1, z2, _⟩ | ⟨b, l, z0, z1, z2⟩
      · rw [z1, z2]; exact ⟨p, rfl, upd_same, fun w => by rw [w, eD] at hp; cases hp⟩
      · rw [z1, z2]; exact ⟨b, rfl, sp _ _ (DO.ls _ z0), ne_of_none (a5.ls _ z0) hD⟩
    refine ⟨_, DGet.k (k := .inl a) (sp _ _ DO.dk), ?_⟩
    obtain ⟨q, eq, eQ, nqD⟩ := pv
    rw [eq]
    refine ⟨q, rfl, ⟨_, .of eQ⟩, ?_⟩
    rw [a6 a] at eQ
    have s4 : Same H (upd H3 p (.lst [])) := s3.trans sp
    have tI : ∀ t ∈ ts.filter (fun t => decide (t.2.1 = a)), t.2 ∈ es ∧ t.2.1 = a ∧ upd H3 p (.lst []) t.1 = some (.tup ((kT t.2.2).map kV)) := fun t ht => by
      obtain ⟨h1, h2⟩ := List.mem_filter.mp ht
      exact ⟨by rw [← a8]; exact List.mem_map.mpr ⟨t, h1, rfl⟩, of_decide_eq_true h2, s4 _ _ (a7 t h1)⟩
    have tJ : ∀ s h g, (a, s, h, g) ∈ es → ∃ t ∈ ts.filter (fun t => decide (t.2.1 = a)), t.2 = (a, s, h, g) := fun s h g he => by
      rw [← a8] at he
      obtain ⟨t, h1, h2⟩ := List.mem_map.mp he
      exact ⟨t, List.mem_filter.mpr ⟨h1, decide_eq_true (by rw [h2])⟩, h2⟩
    have uL : (ts.filter fun t => decide (t.2.1 = a)).length ≤ 60 := Nat.le_trans (List.length_filter_le _ _) (by omega)
    have eD4 := sp _ _ eD
    generalize (ts.filter fun t => decide (t.2.1 = a)) = tt at eQ tI tJ uL
    generalize upd H3 p (.lst []) = H5 at eQ tI s4 eD4 ⊢
    refine for_it (walk_list (K := K) (a := q) (xs := tt.map fun t => V.ref t.1)) (fun j σ H6 => Same H H6 ∧ (∃ v6 v7 v8, σ = [some (.ref g), some (.ref px), some (.ref M), some (.ref pq), some (.ref D), some (.int a), v6, v7, v8]) ∧ (∀ u zs, H5 u = some (.tup zs) → H6 u = some (.tup zs)) ∧ (H6 q = some (.lst (tt.map fun t => V.ref t.1)) ∨ q = D) ∧ q ≠ D ∧ ∃ gs' : List Int, H6 D = some (.dK (trK gs')) ∧ gs'.length ≤ i * 60 + j ∧ ∀ g, g ∈ gs' ↔ g ∈ gs ∨ ∃ t ∈ tt.take j, t.2.2.2.2 = g ∧ (tst pr) (t.2.2.1, t.2.2.2.1) = true)
      ⟨s4, ⟨_, _, _, rfl⟩, fun _ _ e => e, .inl eQ, nqD, gs, eD4, by omega, fun g => ⟨.inl, fun z => z.elim id fun ⟨t, z, _⟩ => by rw [List.take_zero] at z; cases z⟩⟩ (fun j σ H6 _ z => .of (z.2.2.2.1.resolve_right z.2.2.2.2.1)) ?_ ?_
    · rintro j x σ H6' H6 hj ⟨s6, ⟨v6, v7, v8, rfl⟩, k6, eq6, nq, gs', eD6, gl6, gm6⟩ ⟨rfl, hx⟩
      rw [List.length_map] at hj
      rw [List.getElem?_map, List.getElem?_eq_getElem hj] at hx
      cases hx
      have etj : tt.take (j + 1) = tt.take j ++ [tt[j]] := List.take_succ_eq_append_getElem hj
      obtain ⟨eI, ea, eu⟩ := tI _ (List.getElem_mem hj)
      generalize tt[j] = t at etj eI ea eu
      obtain ⟨u, a', s, hh, g'⟩ := t
      dsimp only at ea
      subst ea
      have mem1 : ∀ k : Bool, ((tst pr) (s, hh) = k) → ∀ g2, (∃ t ∈ tt.take (j + 1), t.2.2.2.2 = g2 ∧ (tst pr) (t.2.2.1, t.2.2.2.1) = true) ↔ (∃ t ∈ tt.take j, t.2.2.2.2 = g2 ∧ (tst pr) (t.2.2.1, t.2.2.2.1) = true) ∨ (k = true ∧ g2 = g') := fun b eb g2 => by
        rw [etj]
        constructor
        · rintro ⟨t, h1, h2, h3⟩
          rcases List.mem_append.mp h1 with w | w
          · exact .inl ⟨t, w, h2, h3⟩
          · rw [List.mem_singleton.mp w] at h2 h3
            exact .inr ⟨by rw [← eb]; exact h3, h2.symm⟩
        · rintro (⟨t, h1, h2⟩ | ⟨h1, h2⟩)
          · exact ⟨t, List.mem_append_left _ h1, h2⟩
          · exact ⟨_, List.mem_append_right _ (List.mem_singleton.mpr rfl), h2.symm, eb.trans h1⟩
      have eu7 : H6 u = some (.tup [V.str s, V.int hh, V.int g']) := k6 _ _ eu
      refine rd_gtup eu7 rfl ?_
      walk_at "st"
      intro pt hpt
      have K8 := Same.new (o := .tup [V.str s, V.int hh]) hpt
      walk_at "st"
      refine eqA_si upd_same (K8 _ _ (s6 _ _ hq)) (b.k _ eI) hokq ?_
      generalize upd H6 pt (.tup [V.str s, V.int hh]) = H8 at K8 ⊢
      walk_at "st"
      by_cases c : s = tx [pr.1] ∧ hh = pr.2
      · refine rd_iteB (decide_eq_true c) ?_
        walk_at "st"
        refine ⟨D, _, rfl, DPut.k (k := .inl g') (K8 _ _ eD6) (by unfold trK; rw [List.length_map, sizeLine_eq]; omega), ?_⟩
        rw [tr_add]
        refine ⟨fun b o e => ?_, ⟨_, _, _, rfl⟩, fun u' zs e => ?_, .inl (by rw [upd_ne nq]; exact K8 _ _ (eq6.resolve_right nq)), nq, addI gs' g', upd_same, by have := len_addI gs' g'; omega, fun g2 => ?_⟩
        · rw [upd_ne (ne_of_none e hD)]
          exact K8 _ _ (s6 _ _ e)
        · rw [upd_ne (fun z => by rw [z, eD4] at e; cases e)]
          exact K8 _ _ (k6 _ _ e)
        · rw [mem1 true (by unfold tst; rw [c.1, c.2]; exact decide_eq_true rfl) g2, mem_addI, gm6]
          constructor
          · rintro ((w | w) | w)
            · exact .inl w
            · exact .inr (.inl w)
            · exact .inr (.inr ⟨rfl, w⟩)
          · rintro (w | w | w)
            · exact .inl (.inl w)
            · exact .inl (.inr w)
            · exact .inr w.2
      · refine rd_iteC (decide_eq_false c) ?_
        walk_at "st"
        refine ⟨s6.trans K8, ⟨_, _, _, rfl⟩, fun u' zs e => K8 _ _ (k6 _ _ e), eq6.imp_left (K8 _ _), nq, gs', K8 _ _ eD6, by omega, fun g2 => ?_⟩
        rw [mem1 false (decide_eq_false fun z => c ⟨congrArg Prod.fst z, congrArg Prod.snd z⟩) g2, gm6]
        constructor
        · rintro (w | w)
          · exact .inl w
          · exact .inr (.inl w)
        · rintro (w | w | w)
          · exact .inl w
          · exact .inr w
          · cases w.1
    · rintro σ H6 ⟨s6, ⟨v6, v7, v8, rfl⟩, k6, eq6, nq, gs', eD6, gl6, gm6⟩
      rw [List.length_map, List.take_length] at gm6
      rw [List.length_map] at gl6
      refine ⟨s6, ⟨_, _, _, _, rfl⟩, gs', eD6, by omega, fun g => ?_⟩
      rw [gm6, gm, etk]
      constructor
      · rintro (⟨b, h1, h2⟩ | ⟨t, h1, h2, h3⟩)
        · exact ⟨b, List.mem_append_left _ h1, h2⟩
        · obtain ⟨i1, i2, _⟩ := tI t h1
          refine ⟨a, by simp, t.2.2.1, t.2.2.2.1, ?_, h3⟩
          rw [← h2, ← i2]
          exact i1
      · rintro ⟨b, h1, s, h, h2, h3⟩
        rcases List.mem_append.mp h1 with w | w
        · exact .inl ⟨b, w, s, h, h2, h3⟩
        · rw [List.mem_singleton.mp w] at h2
          obtain ⟨t, t1, t2⟩ := tJ s h g h2
          exact .inr ⟨t, t1, by rw [t2], by rw [t2]; exact h3⟩
  · rintro σ H3 ⟨s3, ⟨v5, v6, v7, v8, rfl⟩, gs, eD, gl, gm⟩
    rw [List.length_map, List.take_length] at gm
    rw [List.length_map] at gl
    exact h H3 gs v5 v6 v7 v8 s3 eD (by omega) gm
theorem spell_step {g O S px M D : Addr} {n : Int} {xs : List Int} {es : List Ed} {fs : List (Int × Int)} {v5 v6 v7 v8 : Option V} {H : Hp} {E : Ends} {zt : Str} {cc : Nat} (hg : GrAt H g O S n es fs) (hA : H px = some (.lst (xs.map V.int))) (zx : xs.length ≤ 100) (b : Below n es fs) (hD : H D = none)
    (h : ∀ H' (gs : List Int) v5 v6 v7 v8, Same H H' → H' D = some (.lst (gs.map V.int)) → gs.length ≤ 6000 → (∀ g, g ∈ gs ↔ ∃ a, a ∈ xs ∧ ∃ s h, (a, s, h, g) ∈ es ∧ (tstS cc) (s, h) = true) → E.nx ([some (.ref g), some (.str zt), some (.ref px), some (.str (tx [cc])), some (.ref D), v5, v6, v7, v8]) H') :
    tFor (iList K (tVar 2)) (gName 5) (tFor (iList K (tDGet2 (tOp (rIx K) (tVar 0) (tC (.int 0))) (tVar 5) (tLst tNil))) (gTup K 3 (gCons (gName 6) (gCons (gName 7) (gCons (gName 8) gNil)))) (tIfS (tTest (tOp (rEqA K) (tVar 6) (tVar 3))) (tDrop (tBM K "list" rAppend (tVar 4) (tCons (tVar 8) tNil))) tNext)) E ([some (.ref g), some (.str zt), some (.ref px), some (.str (tx [cc])), some (.ref D), v5, v6, v7, v8]) (upd H D (.lst [])) := by
  obtain ⟨ov, ts, a5, a6, a7, a8⟩ := hg.o.ex
  have tl : ts.length = es.length := by rw [← a8, List.length_map]
  have ze := b.ze
  have sD := Same.new (o := (.lst [] : HO)) hD
  walk_at "st"
  refine ⟨px, rfl, ⟨_, .of (sD _ _ hA)⟩, ?_⟩
  refine for_it (walk_list (K := K) (a := px) (xs := xs.map V.int)) (fun i σ H3 => Same H H3 ∧ (∃ v5 v6 v7 v8, σ = [some (.ref g), some (.str zt), some (.ref px), some (.str (tx [cc])), some (.ref D), v5, v6, v7, v8]) ∧ ∃ gs : List Int, H3 D = some (.lst (gs.map V.int)) ∧ gs.length ≤ i * 60 ∧ ∀ g, g ∈ gs ↔ ∃ a, a ∈ xs.take i ∧ ∃ s h, (a, s, h, g) ∈ es ∧ (tstS cc) (s, h) = true)
    ⟨sD, ⟨_, _, _, _, rfl⟩, [], upd_same, by simp, fun g => ⟨fun z => (nomatch z), fun ⟨a, z, _⟩ => by rw [List.take_zero] at z; cases z⟩⟩ (fun i σ H3 _ q => .of (q.1 _ _ hA)) ?_ ?_
  · rintro i x σ H3' H3 hi ⟨s3, ⟨v5, v6, v7, v8, rfl⟩, gs, eD, gl, gm⟩ ⟨rfl, hx⟩
    obtain ⟨a, ha, rfl⟩ := getI hx
    rw [List.length_map] at hi
    have etk : xs.take (i + 1) = xs.take i ++ [a] := by rw [List.take_succ_eq_append_getElem hi, (List.getElem?_eq_some_iff.mp ha).2]
    walk_at "st"
    refine ixA_tup (SqT.of (s3 _ _ hg.g)) ix0 ?_
    have DO := a5.same s3
    refine ⟨O, rfl, .inl ⟨_, .inl DO.dk⟩, ?_⟩
    walk_at "st"
    intro p hp
    have sp := Same.new (o := .lst []) hp
    have pv : ∃ q : Addr, ((valV (dvK ov) (.inl a)).getD (.ref p)) = .ref q ∧ upd H3 p (.lst []) q = some (.lst (gv ov a)) ∧ q ≠ D := by
      rcases dv_val ov a with ⟨z1, z2, _⟩ | ⟨b, l, z0, z1, z2⟩
      · rw [z1, z2]; exact ⟨p, rfl, upd_same, fun w => by rw [w, eD] at hp; cases hp⟩
      · rw [z1, z2]; exact ⟨b, rfl, sp _ _ (DO.ls _ z0), ne_of_none (a5.ls _ z0) hD⟩
    refine ⟨_, DGet.k (k := .inl a) (sp _ _ DO.dk), ?_⟩
    obtain ⟨q, eq, eQ, nqD⟩ := pv
    rw [eq]
    refine ⟨q, rfl, ⟨_, .of eQ⟩, ?_⟩
    rw [a6 a] at eQ
    have s4 : Same H (upd H3 p (.lst [])) := s3.trans sp
    have tI : ∀ t ∈ ts.filter (fun t => decide (t.2.1 = a)), t.2 ∈ es ∧ t.2.1 = a ∧ upd H3 p (.lst []) t.1 = some (.tup ((kT t.2.2).map kV)) := fun t ht => by
      obtain ⟨h1, h2⟩ := List.mem_filter.mp ht
      exact ⟨by rw [← a8]; exact List.mem_map.mpr ⟨t, h1, rfl⟩, of_decide_eq_true h2, s4 _ _ (a7 t h1)⟩
    have tJ : ∀ s h g, (a, s, h, g) ∈ es → ∃ t ∈ ts.filter (fun t => decide (t.2.1 = a)), t.2 = (a, s, h, g) := fun s h g he => by
      rw [← a8] at he
      obtain ⟨t, h1, h2⟩ := List.mem_map.mp he
      exact ⟨t, List.mem_filter.mpr ⟨h1, decide_eq_true (by rw [h2])⟩, h2⟩
    have uL : (ts.filter fun t => decide (t.2.1 = a)).length ≤ 60 := Nat.le_trans (List.length_filter_le _ _) (by omega)
    have eD4 := sp _ _ eD
    generalize (ts.filter fun t => decide (t.2.1 = a)) = tt at eQ tI tJ uL
    generalize upd H3 p (.lst []) = H5 at eQ tI s4 eD4 ⊢
    refine for_it (walk_list (K := K) (a := q) (xs := tt.map fun t => V.ref t.1)) (fun j σ H6 => Same H H6 ∧ (∃ v6 v7 v8, σ = [some (.ref g), some (.str zt), some (.ref px), some (.str (tx [cc])), some (.ref D), some (.int a), v6, v7, v8]) ∧ (∀ u zs, H5 u = some (.tup zs) → H6 u = some (.tup zs)) ∧ (H6 q = some (.lst (tt.map fun t => V.ref t.1)) ∨ q = D) ∧ q ≠ D ∧ ∃ gs' : List Int, H6 D = some (.lst (gs'.map V.int)) ∧ gs'.length ≤ i * 60 + j ∧ ∀ g, g ∈ gs' ↔ g ∈ gs ∨ ∃ t ∈ tt.take j, t.2.2.2.2 = g ∧ (tstS cc) (t.2.2.1, t.2.2.2.1) = true)
      ⟨s4, ⟨_, _, _, rfl⟩, fun _ _ e => e, .inl eQ, nqD, gs, eD4, by omega, fun g => ⟨.inl, fun z => z.elim id fun ⟨t, z, _⟩ => by rw [List.take_zero] at z; cases z⟩⟩ (fun j σ H6 _ z => .of (z.2.2.2.1.resolve_right z.2.2.2.2.1)) ?_ ?_
    · rintro j x σ H6' H6 hj ⟨s6, ⟨v6, v7, v8, rfl⟩, k6, eq6, nq, gs', eD6, gl6, gm6⟩ ⟨rfl, hx⟩
      rw [List.length_map] at hj
      rw [List.getElem?_map, List.getElem?_eq_getElem hj] at hx
      cases hx
      have etj : tt.take (j + 1) = tt.take j ++ [tt[j]] := List.take_succ_eq_append_getElem hj
      obtain ⟨eI, ea, eu⟩ := tI _ (List.getElem_mem hj)
      generalize tt[j] = t at etj eI ea eu
      obtain ⟨u, a', s, hh, g'⟩ := t
      dsimp only at ea
      subst ea
      have mem1 : ∀ k : Bool, ((tstS cc) (s, hh) = k) → ∀ g2, (∃ t ∈ tt.take (j + 1), t.2.2.2.2 = g2 ∧ (tstS cc) (t.2.2.1, t.2.2.2.1) = true) ↔ (∃ t ∈ tt.take j, t.2.2.2.2 = g2 ∧ (tstS cc) (t.2.2.1, t.2.2.2.1) = true) ∨ (k = true ∧ g2 = g') := fun b eb g2 => by
        rw [etj]
        constructor
        · rintro ⟨t, h1, h2, h3⟩
          rcases List.mem_append.mp h1 with w | w
          · exact .inl ⟨t, w, h2, h3⟩
          · rw [List.mem_singleton.mp w] at h2 h3
            exact .inr ⟨by rw [← eb]; exact h3, h2.symm⟩
        · rintro (⟨t, h1, h2⟩ | ⟨h1, h2⟩)
          · exact ⟨t, List.mem_append_left _ h1, h2⟩
          · exact ⟨_, List.mem_append_right _ (List.mem_singleton.mpr rfl), h2.symm, eb.trans h1⟩
      have eu7 : H6 u = some (.tup [V.str s, V.int hh, V.int g']) := k6 _ _ eu
      refine rd_gtup eu7 rfl ?_
      walk_at "st"
      have K8 := Same.refl H6
      generalize H6 = H8 at *
      by_cases c : s = tx [cc]
      · refine rd_iteB (decide_eq_true c) ?_
        walk_at "st"
        refine ⟨tyL (K8 _ _ eD6), ?_⟩
        walk_at "st"
        refine append_go (K8 _ _ eD6) (by rw [List.length_map]; omega) ?_
        refine ⟨fun b o e => ?_, ⟨_, _, _, rfl⟩, fun u' zs e => ?_, .inl (by rw [upd_ne nq]; exact K8 _ _ (eq6.resolve_right nq)), nq, gs' ++ [g'], by rw [upd_same, mapI_app], by rw [List.length_append, List.length_singleton]; omega, fun g2 => ?_⟩
        · rw [upd_ne (ne_of_none e hD)]
          exact K8 _ _ (s6 _ _ e)
        · rw [upd_ne (fun z => by rw [z, eD4] at e; cases e)]
          exact K8 _ _ (k6 _ _ e)
        · rw [mem1 true (decide_eq_true c) g2, List.mem_append, List.mem_singleton, gm6]
          constructor
          · rintro ((w | w) | w)
            · exact .inl w
            · exact .inr (.inl w)
            · exact .inr (.inr ⟨rfl, w⟩)
          · rintro (w | w | w)
            · exact .inl (.inl w)
            · exact .inl (.inr w)
            · exact .inr w.2
      · refine rd_iteC (decide_eq_false c) ?_
        walk_at "st"
        refine ⟨s6.trans K8, ⟨_, _, _, rfl⟩, fun u' zs e => K8 _ _ (k6 _ _ e), eq6.imp_left (K8 _ _), nq, gs', K8 _ _ eD6, by omega, fun g2 => ?_⟩
        rw [mem1 false (decide_eq_false c) g2, gm6]
        constructor
        · rintro (w | w)
          · exact .inl w
          · exact .inr (.inl w)
        · rintro (w | w | w)
          · exact .inl w
          · exact .inr w
          · cases w.1
    · rintro σ H6 ⟨s6, ⟨v6, v7, v8, rfl⟩, k6, eq6, nq, gs', eD6, gl6, gm6⟩
      rw [List.length_map, List.take_length] at gm6
      rw [List.length_map] at gl6
      refine ⟨s6, ⟨_, _, _, _, rfl⟩, gs', eD6, by omega, fun g => ?_⟩
      rw [gm6, gm, etk]
      constructor
      · rintro (⟨b, h1, h2⟩ | ⟨t, h1, h2, h3⟩)
        · exact ⟨b, List.mem_append_left _ h1, h2⟩
        · obtain ⟨i1, i2, _⟩ := tI t h1
          refine ⟨a, by simp, t.2.2.1, t.2.2.2.1, ?_, h3⟩
          rw [← h2, ← i2]
          exact i1
      · rintro ⟨b, h1, s, h, h2, h3⟩
        rcases List.mem_append.mp h1 with w | w
        · exact .inl ⟨b, w, s, h, h2, h3⟩
        · rw [List.mem_singleton.mp w] at h2
          obtain ⟨t, t1, t2⟩ := tJ s h g h2
          exact .inr ⟨t, t1, by rw [t2], by rw [t2]; exact h3⟩
  · rintro σ H3 ⟨s3, ⟨v5, v6, v7, v8, rfl⟩, gs, eD, gl, gm⟩
    rw [List.length_map, List.take_length] at gm
    rw [List.length_map] at gl
    exact h H3 gs v5 v6 v7 v8 s3 eD (by omega) gm
theorem gs_ins {n : Int} {es : List Ed} {fs : List (Int × Int)} (b : Below n es fs) {xs gs : List Int} {t : Tst} (h : ∀ g, g ∈ gs ↔ ∃ a, a ∈ xs ∧ ∃ s h, (a, s, h, g) ∈ es ∧ t (s, h) = true) : ∀ g ∈ gs, 0 ≤ g ∧ g < n := fun g hg => by
  obtain ⟨a, _, s, k, he, _⟩ := (h g).mp hg
  exact b.e _ he
theorem lawread_ok {g O S a M : Addr} {n : Int} {es : List Ed} {fs : List (Int × Int)} {ss : List Int} {ps : List (Nat × Int)} {H : Hp} {Q : VK} {E : XK} (hg : GrAt H g O S n es fs) (b : Below n es fs) (hS : H a = some (.lst (ss.map V.int))) (hs : ∀ s ∈ ss, 0 ≤ s ∧ s < n) (z : ss.length ≤ 1000) (hM : Prs H M ps) (okp : ∀ p ∈ ps, p.1 ∈ letters)
    (h : ∀ p H' (xs : List Int), Same H H' → H p = none → H' p = some (.lst (xs.map V.int)) → xs.Pairwise (· < ·) → (∀ i, i ∈ xs ↔ RunP es fs (St0 fs ss) (ps.map tst) i) → Q (.ref p) H') : sp_law_read K [.ref g, .ref a, .ref M] H Q E := by
  have hX : ∀ z, St0 fs ss z → 0 ≤ z ∧ z < n := fun z hz => rch_ins b.f hs hz
  refine ⟨rfl, ?_⟩
  unfold t_law_read
  walk_at "sq"
  walk_at "st"
  refine ixA_tup (SqT.of hg.g) ix1 ?_
  walk_at "st"
  refine lawjoin_ok hS hg.s hs (by omega) fun p1 H1 xs1 s1 f1 e1 u1 m1 => ?_
  walk_at "st"
  walk_at "sq"
  walk_at "st"
  obtain ⟨as, eM, la, ha⟩ := id hM
  refine ⟨M, rfl, ⟨_, .of (s1 _ _ eM)⟩, ?_⟩
  refine for_it (walk_list (K := K) (a := M) (xs := as.map V.ref)) (fun i σ H2 => Same H H2 ∧ ∃ (v3 v4 v5 v6 v7 v8 : Option V) (px : Addr) (xs : List Int), σ = [some (.ref g), some (.ref px), some (.ref M), v3, v4, v5, v6, v7, v8] ∧ H px = none ∧ H2 px = some (.lst (xs.map V.int)) ∧ xs.Pairwise (· < ·) ∧ ∀ j, j ∈ xs ↔ RunP es fs (St0 fs ss) ((ps.take i).map tst) j)
    ⟨s1, none, none, none, none, none, none, p1, xs1, rfl, f1, e1, u1, fun j => by rw [List.take_zero]; exact m1 j⟩ (fun i σ H2 _ q => .of (q.1 _ _ eM)) ?_ ?_
  · rintro i x σ H2' H2 hi ⟨s2, v3, v4, v5, v6, v7, v8, px, xs, rfl, fx, ex, ux, mx⟩ ⟨rfl, hx⟩
    rw [List.length_map] at hi
    rw [List.getElem?_map, List.getElem?_eq_getElem hi] at hx
    cases hx
    have hpi : ps[i]? = some ps[i] := List.getElem?_eq_getElem (by omega)
    have etk : ps.take (i + 1) = ps.take i ++ [ps[i]] := List.take_succ_eq_append_getElem (by omega)
    have hq := ha i _ _ (List.getElem?_eq_getElem hi) hpi
    have ok1 := strOk_one (okp _ (List.mem_of_getElem? hpi))
    generalize ps[i] = pr at hpi etk hq ok1
    refine rd_name ?_
    walk_at "sq"
    walk_at "st"
    intro D hD
    walk_at "st"
    walk_at "sq"
    refine read_step (S := S) (n := n) (s2 _ _ hq) ok1 (hg.same s2) ex (by have := b.len ux hX mx; omega) b hD fun H3 gs v5 v6 v7 v8 s3 eD z3 m3 => ?_
    walk_at "st"
    have s23 := s2.trans s3
    refine ixA_tup (SqT.of (s23 _ _ hg.g)) ix1 ?_
    walk_at "st"
    refine rd_listDk eD fun p hp => ?_
    have sp := Same.new (o := .lst ((trK gs).map fun kv => kV kv.1)) hp
    have ep : upd H3 p (.lst ((trK gs).map fun kv => kV kv.1)) p = some (.lst (gs.map V.int)) := by rw [upd_same]; unfold trK; rw [List.map_map]; rfl
    walk_at "st"
    refine lawjoin_ok ep (hg.s.same (s23.trans sp)) (gs_ins b m3) (by omega) fun p5 H5 xs5 s5 f5 e5 u5 m5 => ?_
    refine rd_name ?_
    have s25 := (s23.trans sp).trans s5
    refine ⟨s25, _, _, _, _, _, _, p5, xs5, rfl, (s23.trans sp).free f5, e5, u5, fun j => (m5 j).trans ?_⟩
    rw [etk, List.map_append]
    exact spread1 mx m3 j
  · rintro σ H2 ⟨s2, v3, v4, v5, v6, v7, v8, px, xs, rfl, fx, ex, ux, mx⟩
    rw [List.length_map, la, List.take_length] at mx
    walk_at "st"
    exact h px H2 xs s2 fx ex ux mx
theorem lawspell_ok {g O S : Addr} {n : Int} {es : List Ed} {fs : List (Int × Int)} {t : List Nat} {H : Hp} {Q : VK} {E : XK} (hg : GrAt H g O S n es fs) (b : Below n es fs) (n0 : 0 < n)
    (h : ∀ p H' (xs : List Int), Same H H' → H p = none → H' p = some (.lst (xs.map V.int)) → xs.Pairwise (· < ·) → (∀ i, i ∈ xs ↔ RunP es fs (St0 fs [0]) (t.map tstS) i) → Q (.ref p) H') : sp_law_spelling K [.ref g, .str (tx t)] H Q E := by
  have h0 : ∀ y ∈ [(0 : Int)], 0 ≤ y ∧ y < n := fun y hy => by rw [List.mem_singleton.mp hy]; exact ⟨Int.le_refl _, n0⟩
  have hX : ∀ z, St0 fs [0] z → 0 ≤ z ∧ z < n := fun z hz => rch_ins b.f h0 hz
  refine ⟨rfl, ?_⟩
  unfold t_law_spelling
  walk_at "sq"
  walk_at "st"
  refine ixA_tup (SqT.of hg.g) ix1 ?_
  walk_at "st"
  intro pa hpa
  have spa := Same.new (o := .lst [V.int 0]) hpa
  walk_at "st"
  refine lawjoin_ok (ss := [0]) upd_same (hg.s.same spa) h0 (by simp) fun p1 H1 xs1 s1' f1' e1 u1 m1 => ?_
  have s1 := spa.trans s1'
  have f1 := spa.free f1'
  walk_at "st"
  walk_at "sq"
  walk_at "st"
  refine ⟨_, rfl, ?_⟩
  refine for_it (walk_str (z := tx t)) (fun i σ H2 => Same H H2 ∧ ∃ (v3 v4 v5 v6 v7 v8 : Option V) (px : Addr) (xs : List Int), σ = [some (.ref g), some (.str (tx t)), some (.ref px), v3, v4, v5, v6, v7, v8] ∧ H px = none ∧ H2 px = some (.lst (xs.map V.int)) ∧ xs.Pairwise (· < ·) ∧ ∀ j, j ∈ xs ↔ RunP es fs (St0 fs [0]) ((t.take i).map tstS) j)
    ⟨s1, none, none, none, none, none, none, p1, xs1, rfl, f1, e1, u1, fun j => by rw [List.take_zero]; exact m1 j⟩ (fun _ _ _ _ _ => trivial) ?_ ?_
  · rintro i x σ H2' H2 hi ⟨s2, v3, v4, v5, v6, v7, v8, px, xs, rfl, fx, ex, ux, mx⟩ ⟨rfl, c, hc, rfl⟩
    rw [tx_get] at hc
    have lt := (List.getElem?_eq_some_iff.mp hc).1
    have etk : t.take (i + 1) = t.take i ++ [c] := by rw [List.take_succ_eq_append_getElem lt, (List.getElem?_eq_some_iff.mp hc).2]
    refine rd_name ?_
    walk_at "sq"
    walk_at "st"
    intro D hD
    walk_at "st"
    walk_at "sq"
    refine spell_step (S := S) (M := g) (n := n) (hg.same s2) ex (by have := b.len ux hX mx; omega) b hD fun H3 gs v5 v6 v7 v8 s3 eD z3 m3 => ?_
    walk_at "st"
    have s23 := s2.trans s3
    refine ixA_tup (SqT.of (s23 _ _ hg.g)) ix1 ?_
    walk_at "st"
    refine lawjoin_ok eD (hg.s.same s23) (gs_ins b m3) (by omega) fun p5 H5 xs5 s5 f5 e5 u5 m5 => ?_
    refine rd_name ?_
    have s25 := s23.trans s5
    refine ⟨s25, _, _, _, _, _, _, p5, xs5, rfl, s23.free f5, e5, u5, fun j => (m5 j).trans ?_⟩
    rw [etk, List.map_append]
    exact spread1 mx m3 j
  · rintro σ H2 ⟨s2, v3, v4, v5, v6, v7, v8, px, xs, rfl, fx, ex, ux, mx⟩
    have ez : (tx t).cps.size = t.length := tx_len t
    rw [ez, List.take_length] at mx
    walk_at "st"
    exact h px H2 xs s2 fx ex ux mx
theorem meets_ok {a l : Addr} {xs last : List Int} {H : Hp} {Q : VK} {E : XK} (hA : H a = some (.lst (xs.map V.int))) (hL : H l = some (.lst (last.map V.int))) (z : xs.length ≤ 1000)
    (h : ∀ H' (k : Bool), Same H H' → (k = true ↔ ∃ i, i ∈ xs ∧ i ∈ last) → Q (.bl k) H') : sp_law_meets K [.ref a, .ref l] H Q E := by
  refine ⟨rfl, ?_⟩
  unfold t_law_meets
  walk_at "st"
  refine ⟨a, rfl, ⟨_, .of hA⟩, fun D hD => ?_⟩
  refine lcA (walk_list (K := K) (a := a) (xs := xs.map V.int)) (xs.map fun i => if decide (i ∈ last) = true then some (.inl (V.int i)) else none) hD (fun H6 s6 => .of (s6 _ _ hA)) (by rw [List.length_map, List.length_map]) (by rw [List.length_map]; omega) ?_ ?_
  · rintro i x ob H2 H3 C hi s2 ⟨rfl, hx⟩ hb hC
    obtain ⟨j, hj, rfl⟩ := getI hx
    rw [List.getElem?_map, hj] at hb
    have hb : ob = if decide (j ∈ last) = true then some (Sum.inl (V.int j) : V ⊕ List V) else none := (Option.some.inj hb).symm
    walk_at "st"
    refine ⟨rfl, ?_⟩
    walk_at "st"
    refine inA_ints (.of (s2 _ _ hL)) ⟨_, rfl, ?_⟩
    by_cases c : j ∈ last
    · refine rd_iteB (decide_eq_true c) ?_
      walk_at "st"
      rw [if_pos (decide_eq_true c)] at hb
      subst hb
      exact hC _ _ (Same.refl _) ⟨_, rfl, rfl⟩
    · refine rd_iteC (decide_eq_false c) ?_
      rw [if_neg (by simp [c])] at hb
      subst hb
      exact hC _ _ (Same.refl _) rfl
  · intro H6 ys s6 eD it
    rw [fm_if] at it
    have ey : ys = (xs.filter fun i => decide (i ∈ last)).map V.int := items_v (by rw [List.map_map]; exact it)
    rw [ey] at eD
    walk_at "st"
    intro p hp
    have sp := Same.new (o := .lst []) hp
    walk_at "st"
    refine neA_intsNil (sp _ _ eD) upd_same (h _ _ (s6.trans sp) ?_)
    constructor
    · intro q
      cases e : (xs.filter fun i => decide (i ∈ last)) with
      | nil => rw [e] at q; cases q
      | cons u r =>
        have : u ∈ xs.filter fun i => decide (i ∈ last) := by rw [e]; exact List.mem_cons_self
        obtain ⟨h1, h2⟩ := List.mem_filter.mp this
        exact ⟨u, h1, of_decide_eq_true h2⟩
    · rintro ⟨i, h1, h2⟩
      cases e : (xs.filter fun i => decide (i ∈ last)) with
      | nil => exact absurd (List.filter_eq_nil_iff.mp e i h1) (by simp [h2])
      | cons u r => rfl
theorem TsAt.kd {H H' : Hp} {l d : Addr} {ms : List MU} (h : TsAt H l ms) (k : Keep d H H') (hd : DrL H d) (n : l ≠ d) : TsAt H' l ms :=
  h.keep (fun o e => k _ _ n e) fun u xs e => k _ _ (fun w => by obtain ⟨ds, _, e2⟩ := hd; rw [w, e2] at e; cases e) e
theorem TsAt.snoc {H : Hp} {l p : Addr} {ms : List MU} {k : Ks} (h : TsAt H l ms) (hp : H p = none) : TsAt (upd (upd H p (.tup (k.map kV))) l (.lst ((ms.map fun m => V.ref m.1) ++ [V.ref p]))) l (ms ++ [(p, k)]) := by
  have pl : p ≠ l := fun w => by rw [w, h.l] at hp; cases hp
  refine ⟨by rw [upd_same, List.map_append]; rfl, fun m hm => ?_⟩
  rcases List.mem_append.mp hm with w | w
  · have e := h.t m w
    rw [upd_ne (fun z => by rw [z, h.l] at e; cases e), upd_ne (ne_of_none e hp)]
    exact e
  · rw [List.mem_singleton.mp w]
    show upd _ l _ p = _
    rw [upd_ne pl, upd_same]
theorem keys_snoc {α : Type} {f : α → Ks} {ms : List MU} {l : List α} {a : α} {p : Addr} (h : keysU ms = l.map f) : keysU (ms ++ [(p, f a)]) = (l ++ [a]).map f := by
  have e : keysU (ms ++ [(p, f a)]) = keysU ms ++ [f a] := by unfold keysU; rw [List.map_append]; rfl
  rw [e, h, List.map_append]
  rfl
theorem sg_at {sg : List Nat} {r : Int} {H : Hp} {Q : VK} (r0 : 0 ≤ r) (r1 : r < sg.length) (z : sg.length ≤ 1000) (h : ∀ c ∈ sg, Q (.str (tx [c])) H) : rIx K (.str (tx sg)) (.int r) H Q := by
  obtain ⟨n, rfl⟩ : ∃ n : Nat, r = n := ⟨r.toNat, by omega⟩
  have hn : n < sg.length := by omega
  exact ixA_str (small2 (by rw [tx_len]; omega)) (atI_nat (by rw [tx_toList]; exact List.getElem?_eq_getElem hn)) (h _ (List.getElem_mem hn))
structure OkEd (n : Int) (e : Ed) : Prop where
  s0 : 0 ≤ e.1
  s1 : e.1 < n
  c : ∃ c ∈ letters, e.2.1 = tx [c]
  h0 : 0 ≤ e.2.2.1
  h1 : e.2.2.1 ≤ 9
  g0 : 0 ≤ e.2.2.2
  g1 : e.2.2.2 < n
structure OkFr (n : Int) (q : Int × Int) : Prop where
  s0 : 0 ≤ q.1
  s1 : q.1 < n
  g0 : 0 ≤ q.2
  g1 : q.2 < n
theorem drl_ne {H : Hp} {d b : Addr} (hd : DrL H d) (e : H b = none) : b ≠ d := fun w => by obtain ⟨ds, _, e2⟩ := hd; rw [w, e2] at e; cases e
theorem mach_of_ok {d : Addr} {sg : List Nat} {H : Hp} {Q : VK} {E : XK} (hd : DrL H d) (hs : sg.length = 2) (hl : ∀ c ∈ sg, c ∈ letters)
    (h : ∀ p H' la ea fa us vs n (last : List Int) es fs, H' p = some (.tup [.int n, .ref la, .ref ea, .ref fa]) → Keep d H H' → DrL H' d → 1 ≤ n → n ≤ 4 → la ≠ d → ea ≠ d → fa ≠ d → H' la = some (.lst (last.map V.int)) → last.Pairwise (· < ·) → (∀ x ∈ last, 0 ≤ x ∧ x < n) → TEd H' ea us es → (∀ e ∈ es, OkEd n e ∧ e.2.2.1 ≤ 2) → es.length ≤ 9 → TPr H' fa vs fs → (∀ q ∈ fs, OkFr n q) → fs.length ≤ 5 → Q (.ref p) H') :
    sp_law_machine_of K [.ref d, .str (tx sg)] H Q E := by
  refine ⟨rfl, ?_⟩
  unfold t_law_machine_of
  walk_at "sq"
  walk_at "st"
  refine pick_ok (by decide) hd fun r0 H1 r00 r01 k1 d1 => ?_
  obtain ⟨n, en⟩ : ∃ n : Int, 1 + r0 = n := ⟨_, rfl⟩
  walk_at "st"
  rw [en]
  have n1 : 1 ≤ n := by omega
  have n4 : n ≤ 4 := by omega
  walk_at "sq"
  walk_at "st"
  intro ea hea
  have fea : H ea = none := k1.free (drl_ne d1 hea) hea
  have nea : ea ≠ d := drl_ne d1 hea
  have k2 : Keep d H (upd H1 ea (.lst [])) := k1.trans (Keep.new hea)
  have d2 : DrL (upd H1 ea (.lst [])) d := d1.same (Same.new hea)
  have e2 : TEd (upd H1 ea (.lst [])) ea [] [] := ⟨⟨upd_same, fun _ z => nomatch z⟩, rfl⟩
  generalize upd H1 ea (.lst []) = H2 at k2 d2 e2 ⊢
  walk_at "st"
  walk_at "sq"
  walk_at "st"
  refine pick_ok (by decide) d2 fun m1 H3 m10 m11 k3 d3 => ?_
  have e3 : TEd H3 ea [] [] := ⟨e2.t.kd k3 d2 nea, rfl⟩
  walk_at "st"
  refine ⟨m1, rfl, by omega, by omega, ?_⟩
  refine forR (n := m1) (fun i σ H2 => (∃ v4 v7 v8 v9, σ = [some (.ref d), some (.str (tx sg)), some (.int n), some (.ref ea), v4, none, none, v7, v8, v9, none]) ∧ Keep d H H2 ∧ DrL H2 d ∧ ∃ us es, TEd H2 ea us es ∧ es.length = i ∧ ∀ e ∈ es, OkEd n e ∧ e.2.2.1 ≤ 2)
    ⟨⟨none, none, none, none, rfl⟩, k2.trans k3, d3, [], [], e3, rfl, fun _ z => nomatch z⟩ ?_ ?_
  · rintro i σ H4 hi ⟨⟨v4, v7, v8, v9, rfl⟩, k4, d4, us, es, e4, l4, o4⟩
    have ul := len_keys e4.k
    refine rd_name ?_
    walk_at "sq"
    walk_at "st"
    refine pick_ok (by omega) d4 fun a H5 a0 a1 k5 d5 => ?_
    walk_at "st"
    walk_at "sq"
    walk_at "st"
    refine lenA_str (small2 (by rw [tx_len]; omega)) ?_
    rw [tx_len]
    walk_at "st"
    refine pick_ok (by omega) d5 fun b H6 b0 b1 k6 d6 => ?_
    refine sg_at b0 b1 (by omega) fun c hc => ?_
    walk_at "st"
    walk_at "sq"
    walk_at "st"
    refine pick_ok (by decide) d6 fun y H7 y0 y1 k7 d7 => ?_
    walk_at "st"
    have e7 := ((e4.t.kd k5 d4 nea).kd k6 d5 nea).kd k7 d6 nea
    refine ⟨tyL e7.l, ?_⟩
    walk_at "st"
    refine pick_ok (by omega) d7 fun g H8 g0 g1 k8 d8 => ?_
    have e8 := e7.kd k8 d7 nea
    walk_at "st"
    intro p hp
    walk_at "st"
    have k48 := (((k4.trans k5).trans k6).trans k7).trans k8
    have sp := Same.new (o := .tup [V.int a, V.str (tx [c]), V.int y, V.int g]) hp
    refine append_go (sp _ _ e8.l) (by rw [List.length_map]; omega) ?_
    have e9 := e8.snoc (k := kE (a, tx [c], y, g)) hp
    refine ⟨⟨_, _, _, _, rfl⟩, fun b o nb e => ?_, ?_, us ++ [(p, kE (a, tx [c], y, g))], es ++ [(a, tx [c], y, g)], ⟨e9, keys_snoc e4.k⟩, by rw [List.length_append, l4]; rfl, fun e he => ?_⟩
    · rw [upd_ne (ne_of_none e fea)]
      exact sp _ _ (k48 b o nb e)
    · obtain ⟨ds, q1, q2⟩ := d8.same sp
      exact ⟨ds, q1, by rw [upd_ne (Ne.symm nea)]; exact q2⟩
    · rcases List.mem_append.mp he with w | w
      · exact o4 e w
      · rw [List.mem_singleton.mp w]
        exact ⟨⟨a0, a1, ⟨c, hl c hc, rfl⟩, y0, by show y ≤ 9; omega, g0, g1⟩, by show y ≤ 2; omega⟩
  rintro σ H4 ⟨⟨v4, v7, v8, v9, rfl⟩, k4, d4, us, es, e4, l4, o4⟩
  clear k1 d1 k2 d2 e2 k3 d3 e3
  walk_at "sq"
  walk_at "st"
  intro fa hfa
  have ffa : H fa = none := k4.free (drl_ne d4 hfa) hfa
  have nfa : fa ≠ d := drl_ne d4 hfa
  have nfe : ea ≠ fa := fun w => by rw [← w, e4.t.l] at hfa; cases hfa
  have sf := Same.new (o := .lst []) hfa
  have k5 : Keep d H (upd H4 fa (.lst [])) := k4.trans (Keep.new hfa)
  have d5 : DrL (upd H4 fa (.lst [])) d := d4.same sf
  have f5 : TPr (upd H4 fa (.lst [])) fa [] [] := ⟨⟨upd_same, fun _ z => nomatch z⟩, rfl⟩
  have e5 : TEd (upd H4 fa (.lst [])) ea us es := ⟨e4.t.same sf, e4.k⟩
  generalize upd H4 fa (.lst []) = H5 at k5 d5 e5 f5 ⊢
  walk_at "st"
  walk_at "sq"
  walk_at "st"
  refine pick_ok (by decide) d5 fun m2 H6 m20 m21 k6 d6 => ?_
  walk_at "st"
  refine ⟨m2, rfl, by omega, by omega, ?_⟩
  refine forR (n := m2) (fun i σ H2 => (∃ v4 v7 v8 v9, σ = [some (.ref d), some (.str (tx sg)), some (.int n), some (.ref ea), v4, some (.ref fa), none, v7, v8, v9, none]) ∧ Keep d H H2 ∧ DrL H2 d ∧ TEd H2 ea us es ∧ ∃ vs fs, TPr H2 fa vs fs ∧ fs.length = i ∧ ∀ q ∈ fs, OkFr n q)
    ⟨⟨_, _, _, _, rfl⟩, k5.trans k6, d6, ⟨e5.t.kd k6 d5 nea, e5.k⟩, [], [], ⟨f5.t.kd k6 d5 nfa, rfl⟩, rfl, fun _ z => nomatch z⟩ ?_ ?_
  · rintro i σ H7 hi ⟨⟨v4, v7, v8, v9, rfl⟩, k7, d7, e7, vs, fs, f7, l7, o7⟩
    have ul := len_keys f7.k
    refine rd_name ?_
    walk_at "sq"
    walk_at "st"
    refine pick_ok (by omega) d7 fun a H8 a0 a1 k8 d8 => ?_
    walk_at "st"
    have f8 := f7.t.kd k8 d7 nfa
    refine ⟨tyL f8.l, ?_⟩
    walk_at "st"
    refine pick_ok (by omega) d8 fun g H9 g0 g1 k9 d9 => ?_
    have f9 := f8.kd k9 d8 nfa
    have e9 := (e7.t.kd k8 d7 nea).kd k9 d8 nea
    walk_at "st"
    intro p hp
    walk_at "st"
    have k79 := (k7.trans k8).trans k9
    have sp := Same.new (o := .tup [V.int a, V.int g]) hp
    refine append_go (sp _ _ f9.l) (by rw [List.length_map]; omega) ?_
    have fA := f9.snoc (k := kP (a, g)) hp
    refine ⟨⟨_, _, _, _, rfl⟩, fun b o nb e => ?_, ?_, ⟨e9.keep (fun o e => by rw [upd_ne nfe]; exact sp _ _ e) (fun u xs e => by rw [upd_ne (fun w => by rw [w, f9.l] at e; cases e)]; exact sp _ _ e), e7.k⟩, vs ++ [(p, kP (a, g))], fs ++ [(a, g)], ⟨fA, keys_snoc f7.k⟩, by rw [List.length_append, l7]; rfl, fun e he => ?_⟩
    · rw [upd_ne (ne_of_none e ffa)]
      exact sp _ _ (k79 b o nb e)
    · obtain ⟨ds, q1, q2⟩ := d9.same sp
      exact ⟨ds, q1, by rw [upd_ne (Ne.symm nfa)]; exact q2⟩
    · rcases List.mem_append.mp he with w | w
      · exact o7 e w
      · rw [List.mem_singleton.mp w]
        exact ⟨a0, a1, g0, g1⟩
  rintro σ H7 ⟨⟨v4, v7, v8, v9, rfl⟩, k7, d7, e7, vs, fs, f7, l7, o7⟩
  clear k5 d5 k6 d6 f5 e5
  walk_at "sq"
  walk_at "st"
  refine ⟨n, rfl, by omega, by omega, fun la hla => ?_⟩
  have fla : H la = none := k7.free (drl_ne d7 hla) hla
  have nla : la ≠ d := drl_ne d7 hla
  have sl := Same.new (o := .lst []) hla
  have nle : ea ≠ la := fun w => by rw [← w, e7.t.l] at hla; cases hla
  have nlf : fa ≠ la := fun w => by rw [← w, f7.t.l] at hla; cases hla
  refine lcR (n := n) (fun i H2 => Keep d H H2 ∧ DrL H2 d ∧ TEd H2 ea us es ∧ TPr H2 fa vs fs ∧ ∃ ls : List Int, H2 la = some (.lst (ls.map V.int)) ∧ ls.Pairwise (· < ·) ∧ (∀ x ∈ ls, 0 ≤ x ∧ x < i) ∧ ls.length ≤ i)
    ⟨k7.trans (Keep.new hla), d7.same sl, ⟨e7.t.same sl, e7.k⟩, ⟨f7.t.same sl, f7.k⟩, [], upd_same, List.Pairwise.nil, fun _ z => (nomatch z), Nat.le_refl _⟩ ?_ ?_
  · rintro i H8 hi ⟨k8, d8, e8, f8, ls, eL, up, bd, ll⟩
    walk_at "st"
    refine ⟨rfl, ?_⟩
    walk_at "st"
    refine pick_ok (by decide) d8 fun r H9 r0 r1 k9 d9 => ?_
    have e9 : TEd H9 ea us es := ⟨e8.t.kd k9 d8 nea, e8.k⟩
    have f9 : TPr H9 fa vs fs := ⟨f8.t.kd k9 d8 nfa, f8.k⟩
    have eL9 := k9 _ _ nla eL
    walk_at "st"
    have bd' : ∀ x ∈ ls, 0 ≤ x ∧ x < ((i + 1 : Nat) : Int) := fun x hx => by have := bd x hx; omega
    by_cases c : r = 1
    · refine rd_iteB (decide_eq_true c) ?_
      walk_at "st"
      refine ⟨_, eL9, by rw [List.length_map, sizeLine_eq]; omega, fun b o nb e => ?_, ?_, ⟨e9.t.keep (fun o e => by rw [upd_ne nle]; exact e) (fun u xs e => by rw [upd_ne (fun w => by rw [w, eL9] at e; cases e)]; exact e), e9.k⟩, ⟨f9.t.keep (fun o e => by rw [upd_ne nlf]; exact e) (fun u xs e => by rw [upd_ne (fun w => by rw [w, eL9] at e; cases e)]; exact e), f9.k⟩, ls ++ [(i : Int)], by rw [upd_same, mapI_app], ?_, fun x hx => ?_, by rw [List.length_append, List.length_singleton]; omega⟩
      · rw [upd_ne (ne_of_none e fla)]
        exact k9 _ _ nb (k8 b o nb e)
      · obtain ⟨ds, q1, q2⟩ := d9
        exact ⟨ds, q1, by rw [upd_ne (Ne.symm nla)]; exact q2⟩
      · refine List.pairwise_append.mpr ⟨up, by simp, fun x hx y hy => ?_⟩
        rw [List.mem_singleton.mp hy]
        exact (bd x hx).2
      · rcases List.mem_append.mp hx with w | w
        · exact bd' x w
        · rw [List.mem_singleton.mp w]; omega
    · refine rd_iteC (decide_eq_false c) ?_
      exact ⟨k8.trans k9, d9, e9, f9, ls, eL9, up, bd', by omega⟩
  · rintro H8 ⟨k8, d8, e8, f8, ls, eL, up, bd, ll⟩
    walk_at "st"
    intro p hp
    have sp := Same.new (o := .tup [V.int n, V.ref la, V.ref ea, V.ref fa]) hp
    exact h p _ la ea fa us vs n ls es fs upd_same (k8.trans (Keep.new hp)) (d8.same sp) n1 n4 nla nea nfa (sp _ _ eL) up (fun x hx => by have := bd x hx; omega) ⟨e8.t.same sp, e8.k⟩ o4 (by omega) ⟨f8.t.same sp, f8.k⟩ o7 (by omega)
/-! _law_walk_on -/
theorem prs_snoc {H : Hp} {L M : Addr} {ps : List (Nat × Int)} {c : Nat} {h : Int} (hp : Prs H L ps) (hT : H M = none) :
    ∃ acc, (upd H M (.tup [.str (tx [c]), .int h])) L = some (.lst acc) ∧ acc.length = ps.length ∧ Prs (upd (upd H M (.tup [.str (tx [c]), .int h])) L (.lst (acc ++ [.ref M]))) L (ps ++ [(c, h)]) := by
  obtain ⟨as, eL, la, ha⟩ := hp
  have LM : L ≠ M := ne_of_none eL hT
  refine ⟨as.map V.ref, by rw [upd_ne LM]; exact eL, by simp [la], as ++ [M], by rw [upd_same, List.map_append]; rfl, by simp [la], fun j a p e1 e2 => ?_⟩
  by_cases hj : j < as.length
  · rw [List.getElem?_append_left hj] at e1
    rw [List.getElem?_append_left (by omega)] at e2
    have e := ha j a p e1 e2
    rw [upd_ne (fun z => by rw [z, eL] at e; cases e), upd_ne (ne_of_none e hT)]
    exact e
  · have h1 := (List.getElem?_eq_some_iff.mp e1).1
    rw [List.length_append, List.length_singleton] at h1
    have hj2 : j = as.length := by omega
    subst hj2
    rw [List.getElem?_append_right (Nat.le_refl _), Nat.sub_self] at e1
    rw [la, List.getElem?_append_right (Nat.le_refl _), Nat.sub_self] at e2
    cases e1
    cases e2
    rw [upd_ne (Ne.symm LM), upd_same]
def pst (s : Int) (k : Ks) : Bool := match k with
  | .inl a :: _ => decide (a = s)
  | _ => false
theorem okE {n : Int} {e : Ed} (h : OkEd n e) : OkK (kE e) := fun x hx => by
  obtain ⟨c, hc, ec⟩ := h.c
  simp only [kE, List.mem_cons, List.not_mem_nil, or_false] at hx
  rcases hx with rfl | rfl | rfl | rfl
  · rfl
  · show PyData.canLay0 (.str e.2.1) = true
    rw [ec]
    have := strOk_one hc
    simp [PyData.canLay0, this]
  · rfl
  · rfl
theorem lawwalk_ok {d ea : Addr} {us : List MU} {es : List Ed} {n s0 : Int} {sg : List Nat} {H : Hp} {Q : VK} {E : XK} (hd : DrL H d) (he : TEd H ea us es) (nea : ea ≠ d) (oe : ∀ e ∈ es, OkEd n e) (ze : es.length ≤ 60) (hs : sg.length = 2) (hl : ∀ c ∈ sg, c ∈ letters)
    (h : ∀ M H' ps, Keep d H H' → DrL H' d → H M = none → M ≠ d → Prs H' M ps → Okp ps → ps.length ≤ 6 → Q (.ref M) H') : sp_law_walk_on K [.ref d, .ref ea, .int s0, .str (tx sg)] H Q E := by
  have ul := len_keys he.k
  have oku : ∀ k ∈ keysU us, OkK k := okU he.k fun e h => okE (oe e h)
  refine ⟨rfl, ?_⟩
  unfold t_law_walk_on
  walk_at "sq"
  walk_at "st"
  intro M hM
  have sM := Same.new (o := .lst []) hM
  have nM : M ≠ d := drl_ne hd hM
  have d1 : DrL (upd H M (.lst [])) d := hd.same sM
  have p1 : Prs (upd H M (.lst [])) M [] := ⟨[], upd_same, rfl, fun j a p e => by simp at e⟩
  have k1 : Keep d H (upd H M (.lst [])) := Keep.new hM
  generalize upd H M (.lst []) = H1 at d1 p1 k1 ⊢
  walk_at "st"
  walk_at "sq"
  walk_at "st"
  refine pick_ok (by decide) d1 fun z H2 z0 z1 k2 d2 => ?_
  walk_at "st"
  walk_at "sq"
  walk_at "st"
  refine pick_ok (by decide) d2 fun q H3 q0 q1 k3 d3 => ?_
  have k13 := (k1.trans k2).trans k3
  have prsK : ∀ {H H' : Hp} {D : Addr} {ps : List (Nat × Int)}, Prs H D ps → Keep d H H' → DrL H d → D ≠ d → Prs H' D ps := fun {H H' D ps} p k dd n => by
    obtain ⟨ds, _, e⟩ := dd
    exact p.keep k n e
  have p3 : Prs H3 M [] := prsK (prsK p1 k2 d1 nM) k3 d2 nM
  walk_at "st"
  by_cases c0 : q = 0
  · refine rd_iteB (decide_eq_true c0) ?_
    walk_at "st"
    refine ⟨z, rfl, by omega, by omega, fun D hD => ?_⟩
    have fD : H D = none := k13.free (drl_ne d3 hD) hD
    have nD : D ≠ d := drl_ne d3 hD
    refine lcR (n := z) (fun i H4 => Keep d H H4 ∧ DrL H4 d ∧ ∃ ps, Prs H4 D ps ∧ Okp ps ∧ ps.length = i) ⟨k13.trans (Keep.new hD), d3.same (Same.new hD), [], ⟨[], upd_same, rfl, fun j a p e => by simp at e⟩, fun _ z => (nomatch z), rfl⟩ ?_ ?_
    · rintro i H4 hi ⟨k4, d4, ps, p4, o4, l4⟩
      walk_at "st"
      refine ⟨rfl, ?_⟩
      walk_at "st"
      refine pick_ok (by decide) d4 fun r H5 r0 r1 k5 d5 => ?_
      refine sg_at r0 (by omega) (by omega) fun c hc => ?_
      walk_at "st"
      refine pick_ok (by decide) d5 fun y H6 y0 y1 k6 d6 => ?_
      walk_at "st"
      intro p hp
      have p6 := prsK (prsK p4 k5 d4 nD) k6 d5 nD
      obtain ⟨acc, e1, e2, e3⟩ := prs_snoc (c := c) (h := y) p6 hp
      have sp := Same.new (o := .tup [.str (tx [c]), .int y]) hp
      walk_at "st"
      refine ⟨acc, e1, by rw [e2, sizeLine_eq]; omega, fun b o nb e => ?_, ?_, ps ++ [(c, y)], e3, fun p hp => ?_, by rw [List.length_append, l4]; rfl⟩
      · rw [upd_ne (ne_of_none e fD)]
        exact sp _ _ (k6 _ _ nb (k5 _ _ nb (k4 _ _ nb e)))
      · obtain ⟨ds, g1, g2⟩ := d6.same sp
        exact ⟨ds, g1, by rw [upd_ne (Ne.symm nD)]; exact g2⟩
      · rcases List.mem_append.mp hp with w | w
        · exact o4 p w
        · rw [List.mem_singleton.mp w]
          exact ⟨hl c hc, y0, by show y ≤ 9; omega⟩
    · rintro H4 ⟨k4, d4, ps, p4, o4, l4⟩
      walk_at "st"
      exact h D H4 ps k4 d4 fD nD p4 o4 (by omega)
  refine rd_iteC (decide_eq_false c0) ?_
  walk_at "st"
  walk_at "sq"
  walk_at "st"
  walk_at "sq"
  walk_at "st"
  refine ⟨z, rfl, by omega, by omega, ?_⟩
  refine forR (n := z) (fun i σ H4 => (∃ s v7 v8 v9, σ = [some (.ref d), some (.ref ea), some (.int s0), some (.str (tx sg)), some (.ref M), some (.int z), some (.int s), v7, v8, v9]) ∧ Keep d H H4 ∧ DrL H4 d ∧ ∃ ps, Prs H4 M ps ∧ Okp ps ∧ ps.length ≤ i)
    ⟨⟨_, _, _, _, rfl⟩, k13, d3, [], p3, fun _ z => (nomatch z), Nat.le_refl _⟩ ?_ ?_
  · rintro i σ H4 hi ⟨⟨s, v7, v8, v9, rfl⟩, k4, d4, ps, p4, o4, l4⟩
    have e4 : TEd H4 ea us es := ⟨he.t.kd k4 hd nea, he.k⟩
    refine rd_name ?_
    walk_at "sq"
    walk_at "st"
    refine ⟨ea, rfl, ⟨_, .of e4.t.l⟩, fun D hD => ?_⟩
    refine lcA (walk_list (K := K) (a := ea) (xs := us.map fun m => V.ref m.1)) (us.map fun m => if pst s m.2 = true then some (.inl (V.ref m.1)) else none) hD (fun H6 s6 => .of (s6 _ _ e4.t.l)) (by rw [List.length_map, List.length_map]) (by rw [List.length_map]; omega) ?_ ?_
    · rintro j x ob H6 H7 C hj s6 ⟨rfl, hx⟩ hb hC
      obtain ⟨u, e, rfl, hu, he⟩ := get_keys e4.k hx
      rw [List.getElem?_map, hu] at hb
      have hb : ob = if pst s (kE e) = true then some (Sum.inl (V.ref u) : V ⊕ List V) else none := (Option.some.inj hb).symm
      obtain ⟨a, sy, hh, g⟩ := e
      have eu : H7 u = some (.tup [V.int a, V.str sy, V.int hh, V.int g]) := s6 _ _ (e4.t.t _ (List.mem_of_getElem? hu))
      walk_at "st"
      refine ⟨rfl, ?_⟩
      walk_at "st"
      refine ixA_tup (.of eu) ix0 ?_
      walk_at "st"
      by_cases c : a = s
      · refine rd_iteB (decide_eq_true c) ?_
        rw [show pst s (kE (a, sy, hh, g)) = true from decide_eq_true c, if_pos rfl] at hb
        subst hb
        walk_at "st"
        exact hC _ _ (Same.refl _) ⟨_, rfl, rfl⟩
      · refine rd_iteC (decide_eq_false c) ?_
        rw [show pst s (kE (a, sy, hh, g)) = false from decide_eq_false c, if_neg (by simp)] at hb
        subst hb
        exact hC _ none (Same.refl _) rfl
    intro H5 ys s5 eD it
    rw [fm_if us (fun m => pst s m.2) fun m => (Sum.inl (V.ref m.1) : V ⊕ List V)] at it
    have ey : ys = (us.filter fun m => pst s m.2).map fun m => V.ref m.1 := by
      have e : ((us.filter fun m => pst s m.2).map fun m => (Sum.inl (V.ref m.1) : V ⊕ List V)) = ((us.filter fun m => pst s m.2).map fun m => V.ref m.1).map Sum.inl := by rw [List.map_map]; rfl
      rw [e] at it
      exact items_v it
    rw [ey] at eD
    have tD : TsAt H5 D (us.filter fun m => pst s m.2) := ⟨eD, fun x hx => s5 _ _ (e4.t.t x (List.mem_filter.mp hx).1)⟩
    have nD : D ≠ d := drl_ne d4 hD
    have sub : ∀ m ∈ (us.filter fun m => pst s m.2), m ∈ us := fun m hm => (List.mem_filter.mp hm).1
    have lenS : (us.filter fun m => pst s m.2).length ≤ us.length := List.length_filter_le _ _
    generalize (us.filter fun m => pst s m.2) = nf at tD sub lenS
    clear ey it eD
    walk_at "st"
    walk_at "sq"
    have e5 : TEd H5 ea us es := ⟨e4.t.same s5, e4.k⟩
    have d5 := d4.same s5
    have p5 := p4.same s5
    have k5 := k4.trans (Keep.same s5)
    walk_at "st"
    intro N hN
    have sN := Same.new (o := .lst []) hN
    walk_at "st"
    refine eqA_tups (tD.same sN) (⟨upd_same, fun _ z => (nomatch z)⟩ : TsAt _ N []) (fun j hj => by obtain ⟨u, hu⟩ := mem_keysU.mp hj; exact oku j (mem_keysU.mpr ⟨u, sub _ hu⟩)) (fun j hj => (nomatch hj)) ⟨_, rfl, ?_⟩
    -- what goes on behind the choice
    have rest : ∀ (na : Addr) (nms : List MU) (H6 : Hp) (v9' : Option V), Same H5 H6 → TsAt H6 na nms → na ≠ d → (∀ m ∈ nms, m ∈ us) → nms.length ≤ us.length → (tIfS (tTest (tOp (rNeA K) (tVar 8) (tLst tNil))) (tSeq (tAsg (tOp (rIx K) (tVar 8) (tCallSD (sp_law_pick K) [] (WE (W0 E)) (tCons (tVar 0) (tCons (tCB (rLenA K) (tCons (tVar 8) tNil)) tNil)))) (gName 9)) (tSeq (tDrop (tBM K "list" rAppend (tVar 4) (tCons (tTup (tCons (tOp (rIx K) (tVar 9) (tC (.int 1))) (tCons (tOp (rIx K) (tVar 9) (tC (.int 2))) tNil))) tNil))) (tAsg (tOp (rIx K) (tVar 9) (tC (.int 3))) (gName 6)))) tNext)
        { nx := (fun i σ H4 => (∃ s v7 v8 v9, σ = [some (.ref d), some (.ref ea), some (.int s0), some (.str (tx sg)), some (.ref M), some (.int z), some (.int s), v7, v8, v9]) ∧ Keep d H H4 ∧ DrL H4 d ∧ ∃ ps, Prs H4 M ps ∧ Okp ps ∧ ps.length ≤ i) (i + 1), rt := Q } [some (.ref d), some (.ref ea), some (.int s0), some (.str (tx sg)), some (.ref M), some (.int z), some (.int s), some (.int i), some (.ref na), v9'] H6 := by
      intro na nms H6 v9' s6 tN nna sub2 len2
      walk_at "st"
      intro N2 hN2
      have sN2 := Same.new (o := .lst []) hN2
      walk_at "st"
      refine neA_tups (tN.same sN2) (⟨upd_same, fun _ z => (nomatch z)⟩ : TsAt _ N2 []) (fun j hj => by obtain ⟨u, hu⟩ := mem_keysU.mp hj; exact oku j (mem_keysU.mpr ⟨u, sub2 _ hu⟩)) (fun j hj => (nomatch hj)) ⟨_, rfl, ?_⟩
      have s7 := s6.trans sN2
      have tN7 := tN.same sN2
      have d7 := d5.same s7
      have p7 := p5.same s7
      have k7 := k5.trans (Keep.same s7)
      have e7 : TEd _ ea us es := ⟨e5.t.same s7, e5.k⟩
      generalize upd H6 N2 (.lst []) = H7 at tN7 d7 p7 k7 e7 ⊢
      cases nms with
      | nil =>
        refine rd_iteC rfl ?_
        walk_at "st"
        exact ⟨⟨_, _, _, _, rfl⟩, k7, d7, ps, p7, o4, by omega⟩
      | cons m0 mr =>
        refine rd_iteB (by rw [decide_eq_false (by simp [keysU])]; rfl) ?_
        walk_at "sq"
        walk_at "st"
        refine lenA_lst (.of tN7.l) ?_
        rw [List.length_map]
        walk_at "st"
        refine pick_ok (by rw [List.length_cons]; omega) d7 fun r H8 r0 r1 k8 d8 => ?_
        have tN8 := tN7.kd k8 d7 nna
        obtain ⟨rn, rfl⟩ : ∃ n : Nat, r = n := ⟨r.toNat, by omega⟩
        have hr : rn < (m0 :: mr).length := by omega
        have inN : (m0 :: mr)[rn] ∈ (m0 :: mr) := List.getElem_mem hr
        have hget : ((m0 :: mr).map fun m => V.ref m.1)[rn]? = some (.ref ((m0 :: mr)[rn]).1) := by rw [List.getElem?_map, List.getElem?_eq_getElem hr]; rfl
        generalize (m0 :: mr)[rn] = mm at inN hget
        have inU := sub2 _ inN
        obtain ⟨u, kk⟩ := mm
        obtain ⟨e, hE, ek⟩ : ∃ e ∈ es, kk = kE e := by
          have : kk ∈ keysU us := mem_keysU.mpr ⟨u, inU⟩
          rw [he.k] at this
          obtain ⟨e, a, b⟩ := List.mem_map.mp this
          exact ⟨e, a, b.symm⟩
        subst ek
        have oE := oe e hE
        have eu := tN8.t _ inN
        obtain ⟨a, sy, hh, g⟩ := e
        obtain ⟨c, hc, ec⟩ := oE.c
        have ec : sy = tx [c] := ec
        subst ec
        have eu : H8 u = some (.tup [V.int a, V.str (tx [c]), V.int hh, V.int g]) := eu
        refine ixA_lst (.of tN8.l) (atI_nat hget) ?_
        walk_at "st"
        walk_at "sq"
        walk_at "st"
        have p8 := prsK p7 k8 d7 nM
        obtain ⟨as8, eM8, _⟩ := id p8
        refine ⟨tyL eM8, ?_⟩
        walk_at "st"
        refine ixA_tup (.of eu) ix1 ?_
        walk_at "st"
        refine ixA_tup (.of eu) ix2 ?_
        walk_at "st"
        intro p hp
        obtain ⟨acc, e1, e2, e3⟩ := prs_snoc (c := c) (h := hh) p8 hp
        have sp := Same.new (o := .tup [.str (tx [c]), .int hh]) hp
        walk_at "st"
        refine append_go e1 (by rw [e2]; omega) ?_
        walk_at "st"
        have eM9 : upd H8 p (.tup [.str (tx [c]), .int hh]) M ≠ none := by rw [e1]; simp
        refine ixA_tup (.of (show upd (upd H8 p (.tup [.str (tx [c]), .int hh])) M (.lst (acc ++ [.ref p])) u = _ by rw [upd_ne (fun w => by rw [w, eM8] at eu; cases eu)]; exact sp _ _ eu)) (atI_nat (j := 3) rfl) ?_
        walk_at "st"
        refine ⟨⟨_, _, _, _, rfl⟩, fun b o nb e => ?_, ?_, ps ++ [(c, hh)], e3, fun p hp => ?_, by rw [List.length_append]; show ps.length + 1 ≤ _; omega⟩
        · rw [upd_ne (ne_of_none e hM)]
          exact sp _ _ (k8 _ _ nb (k7 _ _ nb e))
        · obtain ⟨ds, g1, g2⟩ := d8.same sp
          exact ⟨ds, g1, by rw [upd_ne (Ne.symm nM)]; exact g2⟩
        · rcases List.mem_append.mp hp with w | w
          · exact o4 p w
          · rw [List.mem_singleton.mp w]
            exact ⟨hc, oE.h0, oE.h1⟩
    by_cases c1 : keysU nf = keysU []
    · refine rd_iteB (decide_eq_true c1) ?_
      walk_at "st"
      intro N2 hN2
      have sN2 := Same.new (o := .lst []) hN2
      walk_at "st"
      refine neA_tups ((e5.t.same sN).same sN2) (⟨upd_same, fun _ z => (nomatch z)⟩ : TsAt _ N2 []) oku (fun j hj => (nomatch hj)) ⟨_, rfl, ?_⟩
      by_cases c2 : keysU us = keysU []
      · refine rd_iteC (by rw [decide_eq_true c2]; rfl) ?_
        refine rd_next ?_
        exact rest D nf _ _ (sN.trans sN2) ((tD.same sN).same sN2) nD sub lenS
      · refine rd_iteB (by rw [decide_eq_false c2]; rfl) ?_
        refine rd_asg (rd_var rfl (rd_name ?_))
        exact rest ea us _ _ (sN.trans sN2) ((e5.t.same sN).same sN2) nea (fun _ z => z) (Nat.le_refl _)
    · refine rd_iteC (decide_eq_false c1) ?_
      refine rd_iteC rfl ?_
      refine rd_next ?_
      exact rest D nf _ _ sN (tD.same sN) nD sub lenS
  · rintro σ H4 ⟨⟨s, v7, v8, v9, rfl⟩, k4, d4, ps, p4, o4, l4⟩
    walk_at "st"
    exact h M H4 ps k4 d4 hM nM p4 o4 (by omega)
/-! slices whose ends may lie beyond the end -/
theorem drop_min {α : Type} (l : List α) (k n : Nat) : (l.drop (min k l.length)).take (min (k + n) l.length - min k l.length) = (l.drop k).take n := by
  by_cases h : k ≤ l.length
  · rw [Nat.min_eq_left h]
    by_cases h2 : k + n ≤ l.length
    · rw [Nat.min_eq_left h2, Nat.add_sub_cancel_left]
    · rw [Nat.min_eq_right (by omega)]
      rw [List.take_of_length_le (by rw [List.length_drop]; exact Nat.le_refl _), List.take_of_length_le (by rw [List.length_drop]; omega)]
  · rw [show min k l.length = l.length by omega, List.drop_of_length_le (Nat.le_refl l.length), List.drop_of_length_le (show l.length ≤ k by omega)]
    simp
theorem cutV_any (xs : List V) (k n : Nat) : cutV xs (some (k : Int)) (some ((k : Int) + (n : Int))) = (xs.drop k).take n := by
  unfold cutV
  rw [show (k : Int) + (n : Int) = ((k + n : Nat) : Int) by omega, HT.sIx_nat, HT.sIx_nat, drop_min]
/-! the law's lists cut, added, made into a machine, compared -/
theorem cutV_none (xs : List V) (i : Nat) (hi : i ≤ xs.length) : cutV xs none (some (i : Int)) = xs.take i := by
  unfold cutV
  rw [sIx_none, sIx_nat _ _ _ hi]
  rfl
theorem cutV_one (xs : List V) : cutV xs none (some 1) = xs.take 1 := by
  cases xs with
  | nil => rfl
  | cons x r => exact cutV_none (x :: r) 1 (by simp)
theorem cutV_13 (xs : List V) : cutV xs (some 1) (some 3) = (xs.drop 1).take 2 := cutV_any xs 1 2
theorem ts_01 {l : Addr} {ms : List MU} {H : Hp} {Q : VK} (hl : TsAt H l ms) (h : ∀ p H', Same H H' → H p = none → TsAt H' p (ms.take 1) → Q (.ref p) H') : rSlA K (.ref l) none (some 1) H Q := by
  refine slA_lst (.of hl.l) fun p hp => ?_
  rw [cutV_one]
  exact h p _ (Same.new hp) hp ⟨by rw [upd_same, List.map_take], fun m hm => Same.new hp _ _ (hl.t m (List.mem_of_mem_take hm))⟩
theorem ts_13 {l : Addr} {ms : List MU} {H : Hp} {Q : VK} (hl : TsAt H l ms) (h : ∀ p H', Same H H' → H p = none → TsAt H' p ((ms.drop 1).take 2) → Q (.ref p) H') : rSlA K (.ref l) (some 1) (some 3) H Q := by
  refine slA_lst (.of hl.l) fun p hp => ?_
  rw [cutV_13]
  exact h p _ (Same.new hp) hp ⟨by rw [upd_same, List.map_take, List.map_drop], fun m hm => Same.new hp _ _ (hl.t m (List.mem_of_mem_drop (List.mem_of_mem_take hm)))⟩
theorem ts_add {l k : Addr} {ms js : List MU} {H : Hp} {Q : VK} (hl : TsAt H l ms) (hk : TsAt H k js) (z : ms.length + js.length ≤ 10000) (h : ∀ p H', Same H H' → H p = none → TsAt H' p (ms ++ js) → Q (.ref p) H') : rAddA (.ref l) (.ref k) H Q := by
  refine addA_lst hl.l hk.l (by rw [List.length_map, List.length_map, sizeLine_eq]; omega) fun p hp => ?_
  refine h p _ (Same.new hp) hp ⟨by rw [upd_same, List.map_append], fun m hm => Same.new hp _ _ ?_⟩
  rcases List.mem_append.mp hm with w | w
  · exact hl.t m w
  · exact hk.t m w
theorem ts_list {l : Addr} {ms : List MU} {H : Hp} {Q : VK} (hl : TsAt H l ms) (h : ∀ p H', Same H H' → H p = none → TsAt H' p ms → Q (.ref p) H') : rListA K [.ref l] H Q :=
  ⟨l, _, rfl, .inl (.of hl.l), fun p hp => h p _ (Same.new hp) hp ⟨upd_same, fun m hm => Same.new hp _ _ (hl.t m hm)⟩⟩
theorem in_01 {l : Addr} {xs : List Int} {H : Hp} {Q : VK} (hl : H l = some (.lst (xs.map V.int))) (h : ∀ p H', Same H H' → H p = none → H' p = some (.lst ((xs.take 1).map V.int)) → Q (.ref p) H') : rSlA K (.ref l) none (some 1) H Q := by
  refine slA_lst (.of hl) fun p hp => ?_
  rw [cutV_one]
  exact h p _ (Same.new hp) hp (by rw [upd_same, List.map_take])
theorem in_add {l k : Addr} {xs ys : List Int} {H : Hp} {Q : VK} (hl : H l = some (.lst (xs.map V.int))) (hk : H k = some (.lst (ys.map V.int))) (z : xs.length + ys.length ≤ 10000) (h : ∀ p H', Same H H' → H p = none → H' p = some (.lst ((xs ++ ys).map V.int)) → Q (.ref p) H') : rAddA (.ref l) (.ref k) H Q := by
  refine addA_lst hl hk (by rw [List.length_map, List.length_map, sizeLine_eq]; omega) fun p hp => ?_
  exact h p _ (Same.new hp) hp (by rw [upd_same, List.map_append])
theorem keys_app {α : Type} {f : α → Ks} {ms js : List MU} {l k : List α} (h : keysU ms = l.map f) (g : keysU js = k.map f) : keysU (ms ++ js) = (l ++ k).map f := by
  have e : keysU (ms ++ js) = keysU ms ++ keysU js := by unfold keysU; rw [List.map_append]
  rw [e, h, g, List.map_append]
theorem keys_take {α : Type} {f : α → Ks} {ms : List MU} {l : List α} (n : Nat) (h : keysU ms = l.map f) : keysU (ms.take n) = (l.take n).map f := by
  have e : keysU (ms.take n) = (keysU ms).take n := by unfold keysU; rw [List.map_take]
  rw [e, h, List.map_take]
theorem keys_drop {α : Type} {f : α → Ks} {ms : List MU} {l : List α} (n : Nat) (h : keysU ms = l.map f) : keysU (ms.drop n) = (l.drop n).map f := by
  have e : keysU (ms.drop n) = (keysU ms).drop n := by unfold keysU; rw [List.map_drop]
  rw [e, h, List.map_drop]
/-- Machine(..) -/
theorem mch_make_ok {P : Program} {mg : Str → Option Value} (T : Txt P K mg) {la ea fa : Addr} {n : Int} {last : List Int} {us vs : List MU} {es : List Ed} {fs : List (Int × Int)} {H : Hp} {Q : VK} {E : XK}
    (hla : H la = some (.lst (last.map V.int))) (he : TEd H ea us es) (hf : TPr H fa vs fs) (z1 : last.length ≤ 50) (z2 : es.length ≤ 60) (z3 : fs.length ≤ 60)
    (h : ∀ m H' fp fin es' fs', Same H H' → MchAt K H' m fp n fin es' fs' → (∀ b ∈ fp, H b = none) → (∀ x, x ∈ fin ↔ x ∈ last) → fin.Pairwise (· < ·) → UpU (es'.map kE) → (∀ e, e ∈ es' ↔ e ∈ es) → UpU (fs'.map kP) → (∀ q, q ∈ fs' ↔ q ∈ fs ∧ q.1 ≠ q.2) → es'.length ≤ es.length → fs'.length ≤ fs.length → Q (.ref m) H') :
    MkG (He.ga K "Machine") (sp_Machine_init K) [] [.int n, .ref la, .ref ea, .ref fa] H Q E := by
  intro y dx hy hdx hne
  have s0 : Same H (upd (upd H dx (.own y)) y (.ins (He.ga K "Machine") dx [])) := made_same hy hdx
  refine mch_init_ok T upd_same (s0 _ _ hla) ⟨he.t.same s0, he.k⟩ ⟨hf.t.same s0, hf.k⟩ z1 z2 z3 fun H' fp fin es' fs' k mm fr c1 c2 c3 c4 c5 c6 c7 c8 => ⟨rfl, ?_⟩
  exact h y H' fp fin es' fs' (keep_same hy hdx k) mm (fun b hb => (fr b hb).elim (fun w => w ▸ hy) fun w => s0.free w) c1 c2 c3 c4 c5 c6 c7 c8
/-- lists of two kinds in a tuple, the same twice -/
def pasD (last : List Int) (es : List Ed) (fs : List (Int × Int)) : PyData := .tuple [.list (last.map PyData.int), .list ((es.map kE).map dU), .list ((fs.map kP).map dU)]
theorem pas_dp {t p0 p1 p2 : Addr} {last : List Int} {us vs : List MU} {es : List Ed} {fs : List (Int × Int)} {H : Hp} (ht : H t = some (.tup [.ref p0, .ref p1, .ref p2])) (h0 : H p0 = some (.lst (last.map V.int))) (h1 : TEd H p1 us es) (h2 : TPr H p2 vs fs) : Dp K H (.ref t) (pasD last es fs) :=
  .tup (SqT.of ht) (.cons (.lst (SqL.of h0) (intsData last)) (.cons (.lst (SqL.of h1.t.l) (h1.k ▸ dp_tups h1.t.t)) (.cons (.lst (SqL.of h2.t.l) (h2.k ▸ dp_tups h2.t.t)) .nil)))
theorem pas_eqv (last : List Int) (es : List Ed) (fs : List (Int × Int)) : PyData.eqv (pasD last es fs) (pasD last es fs) = true := by
  have h1 := eqv_ints last
  have h2 := eqv_tupl (es.map kE) (es.map kE)
  have h3 := eqv_tupl (fs.map kP) (fs.map kP)
  rw [decide_eq_true rfl] at h2 h3
  unfold pasD
  rw [PyData.eqv]
  simp only [PyData.eqvAll, h1, h2, h3, Bool.and_true]
theorem pas_shaped {last : List Int} {es : List Ed} {fs : List (Int × Int)} (oe : ∀ e ∈ es, OkK (kE e)) : SeqAt.shaped (pasD last es fs) = true := by
  have h1 := shaped_ints last
  have h2 : SeqAt.shaped (.list ((es.map kE).map dU)) = true := shaped_tups fun k hk => by obtain ⟨e, he, rfl⟩ := List.mem_map.mp hk; exact oe e he
  have h3 : SeqAt.shaped (.list ((fs.map kP).map dU)) = true := shaped_tups fun k hk => by obtain ⟨e, he, rfl⟩ := List.mem_map.mp hk; exact okP e
  have d2 := dep_tups (es.map kE)
  have d3 := dep_tups (fs.map kP)
  have d1 : PyData.depthAll (last.map PyData.int) = 0 := by
    clear h1
    induction last with
    | nil => rfl
    | cons x r ih => simp [PyData.depthAll, PyData.depth, ih]
  unfold pasD
  generalize (es.map kE).map dU = A at h2 d2 ⊢
  generalize (fs.map kP).map dU = B at h3 d3 ⊢
  generalize last.map PyData.int = C at h1 d1 ⊢
  simp [SeqAt.shaped, PyData.canLay0, PyData.depth] at h1 h2 h3
  simp [SeqAt.shaped, PyData.canLay0, PyData.canLayAll0, PyData.depth, PyData.depthAll, h1, h2, h3, d1]
  omega
theorem ne_pas {t u p0 p1 p2 q0 q1 q2 : Addr} {last : List Int} {us us' vs vs' : List MU} {es : List Ed} {fs : List (Int × Int)} {H : Hp} {Q : VK} (ht : H t = some (.tup [.ref p0, .ref p1, .ref p2])) (h0 : H p0 = some (.lst (last.map V.int))) (h1 : TEd H p1 us es) (h2 : TPr H p2 vs fs)
    (hu : H u = some (.tup [.ref q0, .ref q1, .ref q2])) (g0 : H q0 = some (.lst (last.map V.int))) (g1 : TEd H q1 us' es) (g2 : TPr H q2 vs' fs) (oe : ∀ e ∈ es, OkK (kE e)) (h : Q (.bl false) H) : rNeA K (.ref t) (.ref u) H Q :=
  neA_data (pas_dp ht h0 h1 h2) (pas_dp hu g0 g1 g2) (pas_shaped oe) (pas_shaped oe) (pas_eqv _ _ _) h
theorem neA_ints {a p : Addr} {xs : List Int} {H : Hp} {Q : VK} (ha : H a = some (.lst (xs.map V.int))) (hp : H p = some (.lst (xs.map V.int))) (h : Q (.bl false) H) : rNeA K (.ref a) (.ref p) H Q :=
  neA_data (.lst (SqL.of ha) (intsData xs)) (.lst (SqL.of hp) (intsData xs)) (shaped_ints xs) (shaped_ints xs) (eqv_ints xs) h
theorem neA_bls {a b : Bool} {H : Hp} {Q : VK} (e : a = b) (h : Q (.bl false) H) : rNeA K (.bl a) (.bl b) H Q := .inl ⟨rfl, by
  subst e
  rw [show decide (V.bl a = V.bl a) = true by cases a <;> rfl]
  exact h⟩
/-! the law's end: what the machine tells of the row and of texts -/
structure P16 (n : Int) (last fin : List Int) (es es' : List Ed) (fs fs' : List (Int × Int)) : Prop where
  n1 : 1 ≤ n
  n4 : n ≤ 4
  c : Same3 fin last es' es fs' fs
  oe : ∀ e ∈ es, OkEd n e
  of : ∀ q ∈ fs, OkFr n q
  ze : es.length ≤ 50
  zf : fs.length ≤ 50
  zl : last.length ≤ 40
theorem P16.b {n : Int} {last fin : List Int} {es es' : List Ed} {fs fs' : List (Int × Int)} (w : P16 n last fin es es' fs fs') : Below n es fs :=
  ⟨fun e he => ⟨(w.oe e he).g0, (w.oe e he).g1⟩, fun q hq => ⟨(w.of q hq).g0, (w.of q hq).g1⟩, fun e he => by obtain ⟨c, hc, ec⟩ := (w.oe e he).c; rw [ec]; exact strOk_one hc, by have := w.ze; omega, by have := w.zf; omega, by have := w.n4; omega⟩
theorem P16.b' {n : Int} {last fin : List Int} {es es' : List Ed} {fs fs' : List (Int × Int)} (w : P16 n last fin es es' fs fs') : Below n es' fs' :=
  ⟨fun e he => w.b.e e ((w.c.me e).mp he), fun q hq => w.b.f q ((w.c.mf q).mp hq).1, fun e he => w.b.k e ((w.c.me e).mp he), w.c.le, w.c.lf, by have := w.n4; omega⟩
theorem P16.run {n : Int} {last fin : List Int} {es es' : List Ed} {fs fs' : List (Int × Int)} (w : P16 n last fin es es' fs fs') (l : List Tst) (ss : List Int) (y : Int) : RunP es' fs' (St0 fs' ss) l y ↔ RunP es fs (St0 fs ss) l y :=
  RunP_iff w.c.me w.c.mf l (fun _ => rch_free w.c.mf) y
theorem P16.same {n : Int} {last fin : List Int} {es es' : List Ed} {fs fs' : List (Int × Int)} (w : P16 n last fin es es' fs fs') (l : List Tst) {b c : Bool} (hb : b = true ↔ ∃ i, RunP es' fs' (St0 fs' [0]) l i ∧ i ∈ fin) (hc : c = true ↔ ∃ i, RunP es fs (St0 fs [0]) l i ∧ i ∈ last) : b = c := by
  rw [Bool.eq_iff_iff, hb, hc, w.c.f]
  exact ⟨fun ⟨i, p, q⟩ => ⟨i, (w.run l [0] i).mp p, q⟩, fun ⟨i, p, q⟩ => ⟨i, (w.run l [0] i).mpr p, q⟩⟩
theorem no_A {n : Int} {es : List Ed} (oe : ∀ e ∈ es, OkEd n e) {fs : List (Int × Int)} {X : Int → Prop} {c : Nat} {y : Int} : ¬ RunP es fs X ([c, 65].map tstS) y := by
  intro h
  have h : StepP es fs (StepP es fs X (tstS c)) (tstS 65) y := h
  obtain ⟨g, ⟨a, _, s, k, h2, h3⟩, _⟩ := h
  obtain ⟨c', hc', ec⟩ := (oe _ h2).c
  have h3 : s = tx [65] := of_decide_eq_true h3
  have ec : s = tx [c'] := ec
  rw [ec, tx_inj] at h3
  cases h3
  revert hc'
  decide +kernel
structure W16 (K : Frg) (H : Hp) (d la ea fa m : Addr) (fp : List Addr) (us vs : List MU) (n : Int) (last fin : List Int) (es es' : List Ed) (fs fs' : List (Int × Int)) : Prop where
  dr : DrL H d
  hl : H la = some (.lst (last.map V.int))
  he : TEd H ea us es
  hf : TPr H fa vs fs
  hm : MchAt K H m fp n fin es' fs'
  nl : la ≠ d
  ne : ea ≠ d
  nf : fa ≠ d
  nd : d ∉ fp
theorem W16.same {H H' : Hp} {d la ea fa m : Addr} {fp : List Addr} {us vs : List MU} {n : Int} {last fin : List Int} {es es' : List Ed} {fs fs' : List (Int × Int)} (w : W16 K H d la ea fa m fp us vs n last fin es es' fs fs') (s : Same H H') : W16 K H' d la ea fa m fp us vs n last fin es es' fs fs' :=
  ⟨w.dr.same s, s _ _ w.hl, ⟨w.he.t.same s, w.he.k⟩, ⟨w.hf.t.same s, w.hf.k⟩, w.hm.same s, w.nl, w.ne, w.nf, w.nd⟩
theorem W16.kd {H H' : Hp} {d la ea fa m : Addr} {fp : List Addr} {us vs : List MU} {n : Int} {last fin : List Int} {es es' : List Ed} {fs fs' : List (Int × Int)} (w : W16 K H d la ea fa m fp us vs n last fin es es' fs fs') (k : Keep d H H') (d' : DrL H' d) : W16 K H' d la ea fa m fp us vs n last fin es es' fs fs' :=
  ⟨d', k _ _ w.nl w.hl, ⟨w.he.t.kd k w.dr w.ne, w.he.k⟩, ⟨w.hf.t.kd k w.dr w.nf, w.hf.k⟩, w.hm.keep (fun b o hb e => k _ _ (fun z => w.nd (z ▸ hb)) e) fun u xs e => k _ _ (fun z => by obtain ⟨ds, _, e2⟩ := w.dr; rw [z, e2] at e; cases e) e, w.nl, w.ne, w.nf, w.nd⟩
theorem W16.fine {P : Program} {mg : Str → Option Value} (T : Txt P K mg) {H : Hp} {d la ea fa m : Addr} {fp : List Addr} {us vs : List MU} {n : Int} {last fin : List Int} {es es' : List Ed} {fs fs' : List (Int × Int)} (w : W16 K H d la ea fa m fp us vs n last fin es es' fs fs') (p : P16 n last fin es es' fs fs') {Q : VK} {E : XK} (h : ∀ H', Same H H' → Q (.bl true) H') : sp_law_fine K [.ref m, .int n, .ref la, .ref ea, .ref fa] H Q E :=
  fine_ok T w.hm w.hl w.he w.hf p.c (fun e he => okE (p.oe e he)) (by have := p.ze; omega) (by have := p.zf; omega) (by have := p.zl; omega) h
def t_k16t (K : Frg) (E : XK) : TS :=
  (tSeq (tAsg (tLst (tCons (tInO (He.ga K "Machine") (sp_Machine_contains K) (WE (W0 E)) (tVar 9) (tVar 6)) (tCons (tInO (He.ga K "Machine") (sp_Machine_contains K) (WE (W0 E)) (tProp (He.ga K "Row") (sp_Row_signs K) [] E0 (tVar 9)) (tVar 6)) (tCons (tInO (He.ga K "Machine") (sp_Machine_contains K) (WE (W0 E)) (tC (.str "")) (tVar 6)) (tCons (tInO (He.ga K "Machine") (sp_Machine_contains K) (WE (W0 E)) (tOp rAddA (tCallSD (sp_law_odd_sign K) [] (WE (W0 E)) (tCons (tVar 1) tNil)) (tC (.str "A"))) (tVar 6)) tNil))))) (gName 11)) (tSeq (tAsg (tLst (tCons (tCallSD (sp_law_meets K) [] (WE (W0 E)) (tCons (tCallSD (sp_law_read K) [] (WE (W0 E)) (tCons (tVar 7) (tCons (tLst (tCons (tC (.int 0)) tNil)) (tCons (tVar 8) tNil)))) (tCons (tVar 15) tNil))) (tCons (tCallSD (sp_law_meets K) [] (WE (W0 E)) (tCons (tCallSD (sp_law_spelling K) [] (WE (W0 E)) (tCons (tVar 7) (tCons (tProp (He.ga K "Row") (sp_Row_signs K) [] E0 (tVar 9)) tNil))) (tCons (tVar 15) tNil))) tNil))) (gName 12)) (tSeq (tAsg (tOp rAddA (tVar 12) (tLst (tCons (tCallSD (sp_law_meets K) [] (WE (W0 E)) (tCons (tCallSD (sp_law_join K) [] (WE (W0 E)) (tCons (tOp (rIx K) (tVar 7) (tC (.int 1))) (tCons (tLst (tCons (tC (.int 0)) tNil)) tNil))) (tCons (tVar 15) tNil))) (tCons (tC (.bl false)) tNil)))) (gName 12)) (tSeq (tFor (iRng1 (tCons (tC (.int 4)) tNil)) (gName 13) (tIfS (tOr (tNot (tB (tCB (rIsiA K) (tCons (tOp (rIx K) (tVar 11) (tVar 13)) (tCons (tC (.ty "bool")) tNil))))) (tTest (tOp (rNeA K) (tOp (rIx K) (tVar 11) (tVar 13)) (tOp (rIx K) (tVar 12) (tVar 13))))) (tRet (tC (.bl false))) tNext)) (tRet (tCallSD (sp_law_fine K) [] (WE (W0 E)) (tCons (tVar 6) (tCons (tVar 14) (tCons (tVar 15) (tCons (tVar 4) (tCons (tVar 16) tNil)))))))))))
theorem k16t_ok {P : Program} {mg : Str → Option Value} (T : Txt P K mg) {v0 v2 v5 v10 v17 : Option V} {st : Int} {d la ea fa m g O S M y Dy : Addr} {fp : List Addr} {us vs : List MU} {n : Int} {last fin : List Int} {es es' : List Ed} {fs fs' : List (Int × Int)} {ps : List (Nat × Int)} {H : Hp} {D : Ends} {E : XK}
    (w : W16 K H d la ea fa m fp us vs n last fin es es' fs fs') (p : P16 n last fin es es' fs fs') (hg : GrAt H g O S n es fs) (ng : g ≠ d) (hM : Prs H M ps) (nM : M ≠ d) (hy : RowAt K H y Dy ps) (nDy : Dy ≠ d) (okp : Okp ps) (zp : ps.length ≤ 6)
    (hgd : ∀ {H' : Hp}, Keep d H H' → GrAt H' g O S n es fs) (h : ∀ H', D.rt (.bl true) H') :
    t_k16t K E D [v0, some (.ref d), v2, some (.int st), some (.ref ea), v5, some (.ref m), some (.ref g), some (.ref M), some (.ref y), v10, none, none, none, some (.int n), some (.ref la), some (.ref fa), v17] H := by
  have ee : (Str.ofString "") = tx [] := by decide +kernel
  have eA : (Str.ofString "A") = tx [65] := by decide +kernel
  have okl : ∀ q ∈ ps, q.1 ∈ letters := fun q hq => (okp q hq).1
  have n1 := p.n1
  obtain ⟨dm, _, _, _, _, _, em⟩ := w.hm.ins
  obtain ⟨⟨dy, ey⟩, _⟩ := id hy
  unfold t_k16t
  walk_at "sq"
  walk_at "st"
  refine ⟨m, dm, _, rfl, em, mch_has_row T w.hm hy p.b' (by omega) (by omega) okl fun H1 b0 s1 hb0 => ⟨_, rfl, ?_⟩⟩
  walk_at "st"
  refine ⟨y, dy, _, rfl, s1 _ _ ey, row_signs_ok T (by omega) (hy.same s1) fun H2 s2 => ?_⟩
  walk_at "st"
  have s12 := s1.trans s2
  refine ⟨m, dm, _, rfl, s12 _ _ em, mch_has_str T (w.hm.same s12) p.b' (by omega) (by rw [List.length_map]; omega) fun H3 b1 s3 hb1 => ⟨_, rfl, ?_⟩⟩
  walk_at "st"
  have s13 := s12.trans s3
  rw [ee]
  refine ⟨m, dm, _, rfl, s13 _ _ em, mch_has_str T (t := []) (w.hm.same s13) p.b' (by omega) (by simp) fun H4 b2 s4 hb2 => ⟨_, rfl, ?_⟩⟩
  walk_at "st"
  have s14 := s13.trans s4
  refine odd_ok (w.dr.same s14) fun c H5 k5 d5 => ?_
  have w5 := (w.same s14).kd k5 d5
  have K5 : Keep d H H5 := (Keep.same s14).trans k5
  walk_at "st"
  rw [eA]
  refine addA_str (by rw [tx_len, tx_len, sizeLine_eq]; simp) ?_
  rw [tx_app]
  walk_at "st"
  have nmd : m ≠ d := fun z => by obtain ⟨ds, _, e2⟩ := w.dr; rw [← z, em] at e2; cases e2
  refine ⟨m, dm, _, rfl, K5 _ _ nmd em, mch_has_str T (t := [c, 65]) w5.hm p.b' (by omega) (by simp) fun H6 b3 s6 hb3 => ⟨_, rfl, ?_⟩⟩
  walk_at "st"
  intro Tl hTl
  have sT := Same.new (o := .lst [.bl b0, .bl b1, .bl b2, .bl b3]) hTl
  have eT : upd H6 Tl (.lst [.bl b0, .bl b1, .bl b2, .bl b3]) Tl = some (.lst [.bl b0, .bl b1, .bl b2, .bl b3]) := upd_same
  have w7 := w5.same (s6.trans sT)
  have K7 : Keep d H (upd H6 Tl (.lst [.bl b0, .bl b1, .bl b2, .bl b3])) := K5.trans (Keep.same (s6.trans sT))
  generalize upd H6 Tl (.lst [.bl b0, .bl b1, .bl b2, .bl b3]) = H7 at eT w7 K7 ⊢
  have hg7 := hgd K7
  have hM7 : Prs H7 M ps := by obtain ⟨ds, _, e2⟩ := w.dr; exact hM.keep K7 nM e2
  have hy7 : RowAt K H7 y Dy ps := by obtain ⟨ds, _, e2⟩ := w.dr; exact hy.keep K7 nDy e2
  walk_at "st"
  walk_at "sq"
  walk_at "st"
  -- due
  intro A0 hA0
  have sA0 := Same.new (o := .lst [V.int 0]) hA0
  walk_at "st"
  refine lawread_ok (ss := [0]) (hg7.same sA0) p.b upd_same (fun s hs => by rw [List.mem_singleton.mp hs]; omega) (by simp) (hM7.same sA0) okl fun p8 H8 xs8 s8 f8 e8 u8 m8 => ?_
  walk_at "st"
  have s78 := sA0.trans s8
  refine meets_ok e8 (s78 _ _ w7.hl) (by have := p.b.len u8 (fun z hz => rch_ins p.b.f (fun y hy => by rw [List.mem_singleton.mp hy]; omega) hz) m8; omega) fun H9 c0 s9 hc0 => ?_
  have s79 := s78.trans s9
  walk_at "st"
  obtain ⟨⟨dy7, ey7⟩, _⟩ := id hy7
  refine ⟨y, dy7, _, rfl, s79 _ _ ey7, row_signs_ok T (by omega) (hy7.same s79) fun H10 s10 => ?_⟩
  have s710 := s79.trans s10
  walk_at "st"
  refine lawspell_ok (hg7.same s710) p.b (by omega) fun p11 H11 xs11 s11 f11 e11 u11 m11 => ?_
  have s711 := s710.trans s11
  walk_at "st"
  refine meets_ok e11 (s711 _ _ w7.hl) (by have := p.b.len u11 (fun z hz => rch_ins p.b.f (fun y hy => by rw [List.mem_singleton.mp hy]; omega) hz) m11; omega) fun H12 c1 s12' hc1 => ?_
  have s712 := s711.trans s12'
  walk_at "st"
  intro Du hDu
  have sDu := Same.new (o := .lst [.bl c0, .bl c1]) hDu
  have eDu : upd H12 Du (.lst [.bl c0, .bl c1]) Du = some (.lst [.bl c0, .bl c1]) := upd_same
  have s713 := s712.trans sDu
  generalize upd H12 Du (.lst [.bl c0, .bl c1]) = H13 at eDu s713 ⊢
  walk_at "st"
  walk_at "sq"
  walk_at "st"
  have hg13 := hg7.same s713
  refine ixA_tup (SqT.of hg13.g) ix1 ?_
  walk_at "st"
  intro A1 hA1
  have sA1 := Same.new (o := .lst [V.int 0]) hA1
  walk_at "st"
  refine lawjoin_ok (ss := [0]) upd_same (hg13.s.same sA1) (fun s hs => by rw [List.mem_singleton.mp hs]; omega) (by simp) fun p14 H14 xs14 s14' f14 e14 u14 m14 => ?_
  have s14a := s713.trans (sA1.trans s14')
  walk_at "st"
  refine meets_ok e14 (s14a _ _ w7.hl) (by have := p.b.len (l := []) u14 (fun z hz => rch_ins p.b.f (fun y hy => by rw [List.mem_singleton.mp hy]; omega) hz) m14; omega) fun H15 c2 s15 hc2 => ?_
  walk_at "st"
  intro E1 hE1
  have sE1 := Same.new (o := .lst [.bl c2, .bl false]) hE1
  have eE1 : upd H15 E1 (.lst [.bl c2, .bl false]) E1 = some (.lst [.bl c2, .bl false]) := upd_same
  have s16 := (s14a.trans s15).trans sE1
  have eDu16 := sE1 _ _ (s15 _ _ ((sA1.trans s14') _ _ eDu))
  generalize upd H15 E1 (.lst [.bl c2, .bl false]) = H16 at eE1 s16 eDu16 ⊢
  walk_at "st"
  refine addA_lst eDu16 eE1 (by rw [sizeLine_eq]; simp) fun Du2 hDu2 => ?_
  have sD2 := Same.new (o := .lst ([V.bl c0, .bl c1] ++ [.bl c2, .bl false])) hDu2
  have eD2 : upd H16 Du2 (.lst ([V.bl c0, .bl c1] ++ [.bl c2, .bl false])) Du2 = some (.lst [.bl c0, .bl c1, .bl c2, .bl false]) := upd_same
  have s17 := s16.trans sD2
  have eT17 := s17 _ _ eT
  have w17 := w7.same s17
  generalize upd H16 Du2 (.lst ([V.bl c0, .bl c1] ++ [.bl c2, .bl false])) = H17 at eD2 eT17 w17 ⊢
  have q0 : b0 = c0 := p.same _ hb0 (hc0.trans ⟨fun ⟨i, a, b⟩ => ⟨i, (m8 i).mp a, b⟩, fun ⟨i, a, b⟩ => ⟨i, (m8 i).mpr a, b⟩⟩)
  have q1 : b1 = c1 := p.same _ hb1 (hc1.trans ⟨fun ⟨i, a, b⟩ => ⟨i, (m11 i).mp a, b⟩, fun ⟨i, a, b⟩ => ⟨i, (m11 i).mpr a, b⟩⟩)
  have q2 : b2 = c2 := p.same _ hb2 (hc2.trans ⟨fun ⟨i, a, b⟩ => ⟨i, (m14 i).mp a, b⟩, fun ⟨i, a, b⟩ => ⟨i, (m14 i).mpr a, b⟩⟩)
  have q3 : b3 = false := by
    cases b3 with
    | false => rfl
    | true =>
      obtain ⟨i, a, _⟩ := hb3.mp rfl
      exact absurd ((p.run _ [0] i).mp a) (no_A p.oe)
  subst q0 q1 q2 q3
  clear hb0 hb1 hb2 hb3 hc0 hc1 hc2
  walk_at "st"
  walk_at "sq"
  walk_at "st"
  refine ⟨4, rfl, by omega, by omega, ?_⟩
  refine forR (n := 4) (fun i σ H2 => H2 = H17 ∧ ∃ v13, σ = [v0, some (.ref d), v2, some (.int st), some (.ref ea), v5, some (.ref m), some (.ref g), some (.ref M), some (.ref y), v10, some (.ref Tl), some (.ref Du2), v13, some (.int n), some (.ref la), some (.ref fa), v17])
    ⟨rfl, none, rfl⟩ ?_ ?_
  · rintro i σ H2 hi ⟨rfl, v13, rfl⟩
    walk_at "st"
    have get : ∃ b : Bool, atI [V.bl b0, .bl b1, .bl b2, .bl false] (i : Int) = some (.bl b) := by
      obtain q | q | q | q : i = 0 ∨ i = 1 ∨ i = 2 ∨ i = 3 := by omega
      all_goals subst q; exact ⟨_, rfl⟩
    obtain ⟨b, hb⟩ := get
    refine ixA_lst (.of eT17) hb ?_
    walk_at "st"
    refine isi_go (.ty "bool") (.base (.bl _)) (kit_ty (r := true) (by decide +kernel)) ?_
    walk_at "st"
    refine ixA_lst (.of eT17) hb ?_
    walk_at "st"
    refine ixA_lst (.of eD2) hb ?_
    refine neA_bls rfl ?_
    walk_at "st"
    exact ⟨rfl, _, rfl⟩
  · rintro σ H2 ⟨rfl, v13, rfl⟩
    walk_at "st"
    exact w17.fine T p fun H' _ => h H'
/-! the law's beginning -/
def t_k16h (K : Frg) (E : XK) : TS :=
  (tSeq (tAsg (tCallSD (sp_law_pick K) [] (WE (W0 E)) (tCons (tVar 1) (tCons (tVar 14) tNil))) (gName 3)) (tSeq (tAsg (tOp rAddA (tVar 4) (tSl (rSlA K) (tVar 4) (tPart (tC (.int 1))) (tPart (tC (.int 3))))) (gName 4)) (tSeq (tAsg (tTup (tCons (tOp rAddA (tVar 15) (tSl (rSlA K) (tVar 15) tNoPart (tPart (tC (.int 1))))) (tCons (tCB (rListA K) (tCons (tVar 4) tNil)) (tCons (tOp rAddA (tVar 16) (tSl (rSlA K) (tVar 16) tNoPart (tPart (tC (.int 1))))) tNil)))) (gName 5)) (tSeq (tAsg (tMakeS (He.ga K "Machine") (sp_Machine_init K) [] (WE (W0 E)) (tCons (tVar 14) (tCons (tOp (rIx K) (tVar 5) (tC (.int 0))) (tCons (tOp (rIx K) (tVar 5) (tC (.int 1))) (tCons (tOp (rIx K) (tVar 5) (tC (.int 2))) tNil))))) (gName 6)) (tSeq (tIfS (tTest (tOp (rNeA K) (tVar 5) (tTup (tCons (tOp rAddA (tVar 15) (tSl (rSlA K) (tVar 15) tNoPart (tPart (tC (.int 1))))) (tCons (tVar 4) (tCons (tOp rAddA (tVar 16) (tSl (rSlA K) (tVar 16) tNoPart (tPart (tC (.int 1))))) tNil)))))) (tRet (tC (.bl false))) tNext) (tSeq (tDrop (tBM K "list" rAppend (tOp (rIx K) (tVar 5) (tC (.int 0))) (tCons (tC (.int 0)) tNil))) (tSeq (tDrop (tBM K "list" rAppend (tOp (rIx K) (tVar 5) (tC (.int 1))) (tCons (tTup (tCons (tC (.int 0)) (tCons (tC (.str "a")) (tCons (tC (.int 0)) (tCons (tC (.int 0)) tNil))))) tNil))) (tSeq (tDrop (tBM K "list" rAppend (tOp (rIx K) (tVar 5) (tC (.int 2))) (tCons (tTup (tCons (tC (.int 0)) (tCons (tOp rSubA (tVar 14) (tC (.int 1))) tNil))) tNil))) (tSeq (tIfS (tNot (tB (tCallSD (sp_law_fine K) [] (WE (W0 E)) (tCons (tVar 6) (tCons (tVar 14) (tCons (tVar 15) (tCons (tVar 4) (tCons (tVar 16) tNil)))))))) (tRet (tC (.bl false))) tNext) (tSeq (tAsg (tCallSD (sp_law_graph_of K) [] (WE (W0 E)) (tCons (tVar 14) (tCons (tVar 4) (tCons (tVar 16) tNil)))) (gName 7)) (tSeq (tAsg (tCallSD (sp_law_walk_on K) [] (WE (W0 E)) (tCons (tVar 1) (tCons (tVar 4) (tCons (tVar 3) (tCons (tVar 2) tNil))))) (gName 8)) (tSeq (tAsg (tCallSD (sp_law_as_row K) [] (WE (W0 E)) (tCons (tVar 8) tNil)) (gName 9)) (tSeq (tAsg (tMethZ (He.ga K "Machine") "ends" (sp_Machine_ends K) [] (WE (W0 E)) (tVar 6) (tCons (tVar 3) (tCons (tVar 9) tNil))) (gName 10)) (tSeq (tIfS (tOr (tNot (tB (tCB (rIsiA K) (tCons (tVar 10) (tCons (tC (.ty "list")) tNil))))) (tTest (tOp (rNeA K) (tVar 10) (tCallSD (sp_law_read K) [] (WE (W0 E)) (tCons (tVar 7) (tCons (tLst (tCons (tVar 3) tNil)) (tCons (tVar 8) tNil))))))) (tRet (tC (.bl false))) tNext) (tSeq (tAsg (tLst (tCons (tInO (He.ga K "Machine") (sp_Machine_contains K) (WE (W0 E)) (tVar 9) (tVar 6)) (tCons (tInO (He.ga K "Machine") (sp_Machine_contains K) (WE (W0 E)) (tProp (He.ga K "Row") (sp_Row_signs K) [] E0 (tVar 9)) (tVar 6)) (tCons (tInO (He.ga K "Machine") (sp_Machine_contains K) (WE (W0 E)) (tC (.str "")) (tVar 6)) (tCons (tInO (He.ga K "Machine") (sp_Machine_contains K) (WE (W0 E)) (tOp rAddA (tCallSD (sp_law_odd_sign K) [] (WE (W0 E)) (tCons (tVar 1) tNil)) (tC (.str "A"))) (tVar 6)) tNil))))) (gName 11)) (tSeq (tAsg (tLst (tCons (tCallSD (sp_law_meets K) [] (WE (W0 E)) (tCons (tCallSD (sp_law_read K) [] (WE (W0 E)) (tCons (tVar 7) (tCons (tLst (tCons (tC (.int 0)) tNil)) (tCons (tVar 8) tNil)))) (tCons (tVar 15) tNil))) (tCons (tCallSD (sp_law_meets K) [] (WE (W0 E)) (tCons (tCallSD (sp_law_spelling K) [] (WE (W0 E)) (tCons (tVar 7) (tCons (tProp (He.ga K "Row") (sp_Row_signs K) [] E0 (tVar 9)) tNil))) (tCons (tVar 15) tNil))) tNil))) (gName 12)) (tSeq (tAsg (tOp rAddA (tVar 12) (tLst (tCons (tCallSD (sp_law_meets K) [] (WE (W0 E)) (tCons (tCallSD (sp_law_join K) [] (WE (W0 E)) (tCons (tOp (rIx K) (tVar 7) (tC (.int 1))) (tCons (tLst (tCons (tC (.int 0)) tNil)) tNil))) (tCons (tVar 15) tNil))) (tCons (tC (.bl false)) tNil)))) (gName 12)) (tSeq (tFor (iRng1 (tCons (tC (.int 4)) tNil)) (gName 13) (tIfS (tOr (tNot (tB (tCB (rIsiA K) (tCons (tOp (rIx K) (tVar 11) (tVar 13)) (tCons (tC (.ty "bool")) tNil))))) (tTest (tOp (rNeA K) (tOp (rIx K) (tVar 11) (tVar 13)) (tOp (rIx K) (tVar 12) (tVar 13))))) (tRet (tC (.bl false))) tNext)) (tRet (tCallSD (sp_law_fine K) [] (WE (W0 E)) (tCons (tVar 6) (tCons (tVar 14) (tCons (tVar 15) (tCons (tVar 4) (tCons (tVar 16) tNil)))))))))))))))))))))))))
theorem k16h_ok {P : Program} {mg : Str → Option Value} (T : Txt P K mg) {v0 v17 : Option V} {sg : List Nat} {d la ea fa : Addr} {us vs : List MU} {n : Int} {last : List Int} {es : List Ed} {fs : List (Int × Int)} {H : Hp} {D : Ends} {E : XK}
    (sl : sg.length = 2) (sok : ∀ c ∈ sg, c ∈ letters) (hd : DrL H d) (n1 : 1 ≤ n) (n4 : n ≤ 4) (nl : la ≠ d) (ne : ea ≠ d) (nf : fa ≠ d) (hla : H la = some (.lst (last.map V.int))) (up : last.Pairwise (· < ·)) (bl : ∀ x ∈ last, 0 ≤ x ∧ x < n)
    (he : TEd H ea us es) (oe : ∀ e ∈ es, OkEd n e) (ze : es.length ≤ 9) (hf : TPr H fa vs fs) (of : ∀ q ∈ fs, OkFr n q) (zf : fs.length ≤ 5) (h : ∀ H', D.rt (.bl true) H') :
    t_k16h K E D [v0, some (.ref d), some (.str (tx sg)), none, some (.ref ea), none, none, none, none, none, none, none, none, none, some (.int n), some (.ref la), some (.ref fa), v17] H := by
  unfold t_k16h
  walk_at "sq"
  walk_at "st"
  refine pick_ok (by omega) hd fun st H1 st0 st1 k1 d1 => ?_
  have hla1 := k1 _ _ nl hla
  have he1 : TEd H1 ea us es := ⟨he.t.kd k1 hd ne, he.k⟩
  have hf1 : TPr H1 fa vs fs := ⟨hf.t.kd k1 hd nf, hf.k⟩
  have ul := len_keys he.k
  have vl := len_keys hf.k
  have ll : last.length ≤ 4 := by
    have := up_len up bl
    omega
  clear k1 hla he hf hd
  walk_at "st"
  walk_at "sq"
  walk_at "st"
  refine ts_13 he1.t fun c1 H2 s2 f2 t2 => ?_
  refine ts_add (he1.t.same s2) t2 (by rw [List.length_take, List.length_drop]; omega) fun eb H3 s3 f3 t3 => ?_
  have s13 := s2.trans s3
  have he3 : TEd H3 eb (us ++ (us.drop 1).take 2) (es ++ (es.drop 1).take 2) := ⟨t3, keys_app he1.k (keys_take 2 (keys_drop 1 he1.k))⟩
  have neb : eb ≠ d := drl_ne (d1.same s2) f3
  have oe3 : ∀ e ∈ es ++ (es.drop 1).take 2, OkEd n e := fun e h => by
    rcases List.mem_append.mp h with w | w
    · exact oe e w
    · exact oe e (List.mem_of_mem_drop (List.mem_of_mem_take w))
  have ze3 : (es ++ (es.drop 1).take 2).length ≤ 11 := by rw [List.length_append, List.length_take, List.length_drop]; omega
  have d3 := d1.same s13
  have hla3 := s13 _ _ hla1
  have hf3 : TPr H3 fa vs fs := ⟨hf1.t.same s13, hf1.k⟩
  clear t2 t3 s2 s3 f2 f3 he1 hla1 hf1 d1 s13
  generalize es ++ (es.drop 1).take 2 = es3 at he3 oe3 ze3
  generalize us ++ (us.drop 1).take 2 = us3 at he3
  walk_at "st"
  walk_at "sq"
  walk_at "st"
  -- what is passed
  refine in_01 hla3 fun c4 H4 s4 f4 e4 => ?_
  refine in_add (s4 _ _ hla3) e4 (by rw [List.length_take]; omega) fun p0 H5 s5 f5 e5 => ?_
  have s35 := s4.trans s5
  have f0 : H3 p0 = none := s4.free f5
  walk_at "st"
  refine ts_list (he3.t.same s35) fun p1 H6 s6 f6 t6 => ?_
  have s36 := s35.trans s6
  have f1 : H3 p1 = none := s35.free f6
  have n01 : p0 ≠ p1 := ne_of_none e5 f6
  walk_at "st"
  refine ts_01 (hf3.t.same s36) fun c7 H7 s7 f7 t7 => ?_
  refine ts_add ((hf3.t.same s36).same s7) t7 (by rw [List.length_take]; omega) fun p2 H8 s8 f8 t8 => ?_
  have s68 := s7.trans s8
  have s38 := s36.trans s68
  have f2 : H3 p2 = none := (s36.trans s7).free f8
  have n02 : p0 ≠ p2 := ne_of_none (s7 _ _ (s6 _ _ e5)) f8
  have n12 : p1 ≠ p2 := ne_of_none (s7 _ _ t6.l) f8
  walk_at "st"
  intro t ht
  have sT := Same.new (o := .tup [.ref p0, .ref p1, .ref p2]) ht
  have eT : upd H8 t (.tup [.ref p0, .ref p1, .ref p2]) t = some (.tup [.ref p0, .ref p1, .ref p2]) := upd_same
  have e0 := sT _ _ (s68 _ _ (s6 _ _ e5))
  have E1 : TEd (upd H8 t (.tup [.ref p0, .ref p1, .ref p2])) p1 us3 es3 := ⟨(t6.same s68).same sT, he3.k⟩
  have E2 : TPr (upd H8 t (.tup [.ref p0, .ref p1, .ref p2])) p2 (vs ++ vs.take 1) (fs ++ fs.take 1) := ⟨t8.same sT, keys_app hf3.k (keys_take 1 hf3.k)⟩
  have s39 := s38.trans sT
  generalize upd H8 t (.tup [.ref p0, .ref p1, .ref p2]) = H9 at sT eT e0 E1 E2 s39 ⊢
  clear s4 f4 e4 s5 f5 e5 s35 s6 f6 t6 s36 s7 f7 t7 s8 f8 t8 s68 s38 sT ht
  walk_at "st"
  walk_at "sq"
  walk_at "st"
  refine ixA_tup (SqT.of eT) ix0 ?_
  walk_at "st"
  refine ixA_tup (SqT.of eT) ix1 ?_
  walk_at "st"
  refine ixA_tup (SqT.of eT) ix2 ?_
  walk_at "st"
  refine mch_make_ok T e0 E1 E2 (by rw [List.length_append, List.length_take]; omega) (by omega) (by rw [List.length_append, List.length_take]; omega) fun m HA fp fin es' fs' sA mA frA c1 c2 c3 c4 c5 c6 c7 c8 => ?_
  have s3A := s39.trans sA
  have z2 : (fs ++ fs.take 1).length ≤ 10 := by rw [List.length_append, List.length_take]; omega
  have fe : fin = last := ints_rise c2 up fun x => (c1 x).trans ⟨fun w => (List.mem_append.mp w).elim id List.mem_of_mem_take, fun w => List.mem_append_left _ w⟩
  have fm : ∀ q, q ∈ fs' ↔ q ∈ fs ∧ q.1 ≠ q.2 := fun q => (c6 q).trans ⟨fun ⟨w, v⟩ => ⟨(List.mem_append.mp w).elim id List.mem_of_mem_take, v⟩, fun ⟨w, v⟩ => ⟨List.mem_append_left _ w, v⟩⟩
  have P : P16 n last fin es3 es' fs fs' := ⟨n1, n4, ⟨fe, c3, c4, c5, fm, by omega, by omega⟩, oe3, of, by omega, by omega, by omega⟩
  clear c1 c2 c3 c4 c5 c6 c7 c8 fe fm
  walk_at "st"
  walk_at "sq"
  walk_at "st"
  -- the same once more
  refine in_01 (s3A _ _ hla3) fun c4 H4 s4 f4 e4 => ?_
  refine in_add (s4 _ _ (s3A _ _ hla3)) e4 (by rw [List.length_take]; omega) fun q0 H5 s5 f5 e5 => ?_
  have sA5 := s4.trans s5
  walk_at "st"
  refine ts_01 ((hf3.t.same s3A).same sA5) fun c7 H7 s7 f7 t7 => ?_
  refine ts_add (((hf3.t.same s3A).same sA5).same s7) t7 (by rw [List.length_take]; omega) fun q2 H8 s8 f8 t8 => ?_
  have s58 := s7.trans s8
  have sA8 := sA5.trans s58
  walk_at "st"
  intro u hu
  have sU := Same.new (o := .tup [.ref q0, .ref eb, .ref q2]) hu
  have eU : upd H8 u (.tup [.ref q0, .ref eb, .ref q2]) u = some (.tup [.ref q0, .ref eb, .ref q2]) := upd_same
  have sAU := sA8.trans sU
  have s9U := sA.trans sAU
  have g0 := sU _ _ (s58 _ _ e5)
  have g2 : TPr (upd H8 u (.tup [.ref q0, .ref eb, .ref q2])) q2 (vs ++ vs.take 1) (fs ++ fs.take 1) := ⟨t8.same sU, keys_app hf3.k (keys_take 1 hf3.k)⟩
  walk_at "st"
  refine ne_pas (s9U _ _ eT) (s9U _ _ e0) ⟨E1.t.same s9U, E1.k⟩ ⟨E2.t.same s9U, E2.k⟩ eU g0 ⟨he3.t.same (s3A.trans sAU), he3.k⟩ g2 (fun e he => okE (oe3 e he)) ?_
  have s3U := s3A.trans sAU
  have mU := mA.same sAU
  have eTU := s9U _ _ eT
  have e0U := s9U _ _ e0
  have E1U := E1.t.same s9U
  have E2U := E2.t.same s9U
  have fr : ∀ p o, H9 p = some o → p ∉ fp := fun p o e hp => by rw [frA p hp] at e; cases e
  have x0 := fr _ _ e0
  have x1 := fr _ _ E1.t.l
  have x2 := fr _ _ E2.t.l
  have xd : d ∉ fp := by obtain ⟨ds, _, e⟩ := d3.same s39; exact fr _ _ e
  clear s4 f4 e4 s5 f5 e5 sA5 s7 f7 t7 s8 f8 t8 s58 sA8 sU eU g0 g2 s9U eT e0 E1 E2 sA mA frA s3A sAU s39 fr hu
  generalize upd H8 u (.tup [.ref q0, .ref eb, .ref q2]) = HU at s3U mU eTU e0U E1U E2U ⊢
  walk_at "st"
  -- what is appended
  walk_at "sq"
  walk_at "st"
  refine ixA_tup (SqT.of eTU) ix0 ?_
  refine ⟨tyL e0U, ?_⟩
  walk_at "st"
  refine append_go e0U (by rw [List.length_map, List.length_append, List.length_take]; omega) ?_
  have kB : ∀ b o, b ≠ p0 → HU b = some o → upd HU p0 (.lst ((last ++ last.take 1).map V.int ++ [V.int 0])) b = some o := fun b o nb e => by rw [upd_ne nb]; exact e
  generalize upd HU p0 (.lst ((last ++ last.take 1).map V.int ++ [V.int 0])) = HB at kB ⊢
  have ntp : ∀ {H : Hp} {p b : Addr} {xs ys : List V}, H p = some (.lst xs) → H b = some (.tup ys) → b ≠ p := fun e1 e2 z => by rw [z, e1] at e2; cases e2
  have eTB := kB _ _ (ntp e0U eTU) eTU
  have E1B := kB _ _ (Ne.symm n01) E1U.l
  have E2B := kB _ _ (Ne.symm n02) E2U.l
  walk_at "st"
  walk_at "sq"
  walk_at "st"
  refine ixA_tup (SqT.of eTB) ix1 ?_
  refine ⟨tyL E1B, ?_⟩
  walk_at "st"
  intro u1 hu1
  have s1 := Same.new (o := .tup [V.int 0, .str "a", .int 0, .int 0]) hu1
  walk_at "st"
  have uz := len_keys (f := kE) he3.k
  have vz := len_keys (f := kP) (ms := vs ++ vs.take 1) (l := fs ++ fs.take 1) (keys_app hf3.k (keys_take 1 hf3.k))
  refine append_go (s1 _ _ E1B) (by rw [List.length_map]; omega) ?_
  have kC : ∀ b o, b ≠ p1 → HB b = some o → upd (upd HB u1 (.tup [V.int 0, .str "a", .int 0, .int 0])) p1 (.lst ((us3.map fun m => V.ref m.1) ++ [V.ref u1])) b = some o := fun b o nb e => by rw [upd_ne nb]; exact s1 _ _ e
  generalize upd (upd HB u1 (.tup [V.int 0, .str "a", .int 0, .int 0])) p1 (.lst ((us3.map fun m => V.ref m.1) ++ [V.ref u1])) = HC at kC ⊢
  have eTC := kC _ _ (ntp E1B eTB) eTB
  have E2C := kC _ _ (Ne.symm n12) E2B
  walk_at "st"
  walk_at "sq"
  walk_at "st"
  refine ixA_tup (SqT.of eTC) ix2 ?_
  refine ⟨tyL E2C, ?_⟩
  walk_at "st"
  intro u2 hu2
  have s2 := Same.new (o := .tup [V.int 0, .int (n - 1)]) hu2
  walk_at "st"
  refine append_go (s2 _ _ E2C) (by rw [List.length_map]; omega) ?_
  have kD : ∀ b o, b ≠ p2 → HC b = some o → upd (upd HC u2 (.tup [V.int 0, .int (n - 1)])) p2 (.lst (((vs ++ vs.take 1).map fun m => V.ref m.1) ++ [V.ref u2])) b = some o := fun b o nb e => by rw [upd_ne nb]; exact s2 _ _ e
  generalize upd (upd HC u2 (.tup [V.int 0, .int (n - 1)])) p2 (.lst (((vs ++ vs.take 1).map fun m => V.ref m.1) ++ [V.ref u2])) = HD at kD ⊢
  have k3 : ∀ b o, b ≠ p0 → b ≠ p1 → b ≠ p2 → HU b = some o → HD b = some o := fun b o a1 a2 a3 e => kD b o a3 (kC b o a2 (kB b o a1 e))
  have kt : ∀ b xs, HU b = some (.tup xs) → HD b = some (.tup xs) := fun b xs e => k3 b _ (ntp e0U e) (ntp E1U.l e) (ntp E2U.l e) e
  have kn : ∀ b o, H3 b = some o → HD b = some o := fun b o e => k3 b o (ne_of_none e f0) (ne_of_none e f1) (ne_of_none e f2) (s3U _ _ e)
  have w : W16 K HD d la eb fa m fp us3 vs n last fin es3 es' fs fs' :=
    ⟨by obtain ⟨ds, a, e⟩ := d3; exact ⟨ds, a, kn _ _ e⟩, kn _ _ hla3, ⟨he3.t.keep (fun o e => kn _ _ e) fun u xs e => kn _ _ e, he3.k⟩, ⟨hf3.t.keep (fun o e => kn _ _ e) fun u xs e => kn _ _ e, hf3.k⟩, mU.keep (fun b o hb e => k3 b o (fun z => x0 (z ▸ hb)) (fun z => x1 (z ▸ hb)) (fun z => x2 (z ▸ hb)) e) kt, nl, neb, nf, xd⟩
  clear kB kC kD k3 kt kn s1 s2 hu1 hu2 eTU eTB eTC E1U E1B E2U E2B E2C e0U mU s3U hf3 he3 hla3 d3 f0 f1 f2
  walk_at "st"
  walk_at "sq"
  walk_at "st"
  refine w.fine T P fun HE sE => ?_
  have wE := w.same sE
  walk_at "st"
  walk_at "sq"
  walk_at "st"
  refine graph_ok wE.he wE.hf P.b (by omega) fun g O S HG sG hG hGk => ?_
  have wG := wE.same sG
  have gk : ∀ {H2 : Hp}, Keep d HG H2 → GrAt H2 g O S n es3 fs := fun {H2} k => by obtain ⟨ds, _, e⟩ := wE.dr; exact hGk d _ H2 e k
  walk_at "st"
  walk_at "sq"
  walk_at "st"
  refine lawwalk_ok wG.dr wG.he wG.ne P.oe (by omega) sl sok fun M HM ps kM dM fM nM pM okM zM => ?_
  have wM := wG.kd kM dM
  walk_at "st"
  walk_at "sq"
  walk_at "st"
  refine as_row_ok T (by omega) pM okM fun y Dy HY sY fY fDy rY => ?_
  have wY := wM.same sY
  have kY := kM.trans (Keep.same sY)
  have okl : ∀ q ∈ ps, q.1 ∈ letters := fun q hq => (okM q hq).1
  walk_at "st"
  walk_at "sq"
  walk_at "st"
  obtain ⟨dm, _, _, _, _, _, em⟩ := wY.hm.ins
  refine ⟨m, dm, _, rfl, em, nl_ends _ _ _ _ _ _, ?_⟩
  walk_at "st"
  refine mch_ends_ok T wY.hm rY P.b' ⟨st0, st1⟩ (by omega) okl fun p HP xs sP fP eP uP mP => ?_
  have wP := wY.same sP
  have kP' := kY.trans (Keep.same sP)
  walk_at "st"
  walk_at "sq"
  walk_at "st"
  refine isi_go (.ty _) (.base (.lst eP)) (kit_ty (r := true) (by decide +kernel)) ?_
  walk_at "st"
  intro A0 hA0
  have sA0 := Same.new (o := .lst [V.int st]) hA0
  walk_at "st"
  refine lawread_ok (ss := [st]) ((gk kP').same sA0) P.b upd_same (fun s hs => by rw [List.mem_singleton.mp hs]; exact ⟨st0, st1⟩) (by simp) ((pM.same (sY.trans sP)).same sA0) okl fun q HQ ys sQ fQ eQ uQ mQ => ?_
  have sPQ := sA0.trans sQ
  have eqs : ys = xs := ints_rise uQ uP fun i => (mQ i).trans ((P.run _ [st] i).symm.trans (mP i).symm)
  subst eqs
  refine neA_ints (sPQ _ _ eP) eQ ?_
  have sMQ := (sY.trans sP).trans sPQ
  have kQ := kP'.trans (Keep.same sPQ)
  walk_at "st"
  exact k16t_ok T (wP.same sPQ) P (gk kQ) (fun z => by obtain ⟨ds, _, e⟩ := wG.dr; rw [← z, hG.g] at e; cases e) (pM.same sMQ) nM (rY.same (sP.trans sPQ)) (drl_ne dM fDy) okM zM (fun k => gk (kQ.trans k)) h
/-- [(e[0], e[1], e[2] + 7, e[3]) for e in edges] -/
def liftE (e : Ed) : Ed := (e.1, e.2.1, e.2.2.1 + 7, e.2.2.2)
theorem items_ed {H : Hp} {es : List Ed} : ∀ {ys : List V}, ItemsAt H ys (es.map fun e => (Sum.inr ((kE e).map kV) : V ⊕ List V)) → ∃ us : List MU, ys = us.map (fun m => V.ref m.1) ∧ keysU us = es.map kE ∧ ∀ m ∈ us, H m.1 = some (.tup (m.2.map kV)) := by
  induction es with
  | nil =>
    intro ys it
    have : ys = [] := List.eq_nil_of_length_eq_zero (by rw [it.l]; rfl)
    exact ⟨[], this, rfl, fun _ z => nomatch z⟩
  | cons e r ih =>
    intro ys it
    cases ys with
    | nil => have := it.l; simp at this
    | cons y t =>
      obtain ⟨u, eu, hu⟩ : ∃ u, y = .ref u ∧ H u = some (.tup ((kE e).map kV)) := it.g 0 y _ rfl rfl
      obtain ⟨us, h1, h2, h3⟩ := ih (ys := t) ⟨by have := it.l; simpa using this, fun j y z a b => it.g (j + 1) y z (by simpa using a) (by simpa using b)⟩
      refine ⟨(u, kE e) :: us, by rw [eu, h1]; rfl, by unfold keysU at *; rw [List.map_cons, List.map_cons, h2], fun m hm => ?_⟩
      rcases List.mem_cons.mp hm with w | w
      · rw [w]; exact hu
      · exact h3 m w
theorem lifted_ed {ea : Addr} {us : List MU} {es : List Ed} {v0 v1 v2 v3 v5 v6 v7 v8 v9 v10 v11 v12 v13 v14 v15 v16 v17 : Option V} {H : Hp} {Q : VK} (he : TEd H ea us es) (ze : es.length ≤ 50)
    (h : ∀ p H' us', Same H H' → H p = none → TEd H' p us' (es.map liftE) → Q (.ref p) H') :
    tLc (iList K (tVar 4)) (gName 17) tYes (tTup (tCons (tOp (rIx K) (tVar 17) (tC (.int 0))) (tCons (tOp (rIx K) (tVar 17) (tC (.int 1))) (tCons (tOp rAddA (tOp (rIx K) (tVar 17) (tC (.int 2))) (tC (.int 7))) (tCons (tOp (rIx K) (tVar 17) (tC (.int 3))) tNil))))) [17] [v0, v1, v2, v3, some (.ref ea), v5, v6, v7, v8, v9, v10, v11, v12, v13, v14, v15, v16, v17] H Q := by
  have ul := len_keys he.k
  walk_at "st"
  refine ⟨ea, rfl, ⟨_, .of he.t.l⟩, fun D hD => ?_⟩
  refine lcA (walk_list (K := K) (a := ea) (xs := us.map fun m => V.ref m.1)) (es.map fun e => some (.inr ((kE (liftE e)).map kV))) hD (fun H6 s6 => .of (s6 _ _ he.t.l)) (by rw [List.length_map, List.length_map, ul]) (by rw [List.length_map]; omega) ?_ ?_
  · rintro k x ob H2 H3 C hk s2 ⟨rfl, hx⟩ hb hC
    obtain ⟨u, e, rfl, hu, heq⟩ := get_keys he.k hx
    rw [List.getElem?_map, heq] at hb
    have hb : ob = some (Sum.inr ((kE (liftE e)).map kV) : V ⊕ List V) := (Option.some.inj hb).symm
    obtain ⟨a, sy, hh, g⟩ := e
    have eu : H3 u = some (.tup [V.int a, V.str sy, V.int hh, V.int g]) := s2 _ _ (he.t.t _ (List.mem_of_getElem? hu))
    walk_at "st"
    refine ⟨rfl, ?_⟩
    walk_at "st"
    refine ixA_tup (.of eu) ix0 ?_
    walk_at "st"
    refine ixA_tup (.of eu) ix1 ?_
    walk_at "st"
    refine ixA_tup (.of eu) ix2 ?_
    walk_at "st"
    refine ixA_tup (.of eu) (atI_nat (j := 3) rfl) ?_
    walk_at "st"
    subst hb
    exact fun p hp => hC _ _ (Same.new hp) ⟨_, rfl, p, rfl, upd_same⟩
  · intro H6 ys s6 eD it
    rw [fm_some] at it
    have it : ItemsAt H6 ys ((es.map liftE).map fun e => (Sum.inr ((kE e).map kV) : V ⊕ List V)) := by rw [List.map_map]; exact it
    obtain ⟨us', e1, e2, e3⟩ := items_ed it
    subst e1
    exact h D H6 us' s6 hD ⟨⟨eD, e3⟩, e2⟩
theorem law_ok {P : Program} {mg : Str → Option Value} (T : Txt P K mg) {a : Addr} {ns : List Int} {H : Hp} {Q : VK} {E : XK} (hS : SqL K H a (ns.map V.int)) (hn : ns.length ≤ 63) (h : ∀ H', Q (.bl true) H') : sp_law K [.ref a] H Q E := by
  refine ⟨rfl, ?_⟩
  unfold t_law
  walk_at "go"
  refine pool_ok hS hn fun d H1 _ _ d1 => ?_
  walk_at "st"
  walk_at "sq"
  walk_at "st"
  refine alphabet_ok (by decide) (by decide) d1 fun sg H3 sl sok _ _ d3 => ?_
  have sl : sg.length = 2 := sl
  walk_at "st"
  walk_at "sq"
  walk_at "st"
  refine mach_of_ok d3 sl sok fun p H4 la ea fa us vs n last es fs ep _ d4 n1 n4 nl ne nf hla up bl he oe ze hf of zf => ?_
  refine rd_gtup ep rfl ?_
  walk_at "st"
  walk_at "sq"
  walk_at "st"
  refine pick_ok (by decide) d4 fun r H5 _ _ k5 d5 => ?_
  have hla5 := k5 _ _ nl hla
  have he5 : TEd H5 ea us es := ⟨he.t.kd k5 d4 ne, he.k⟩
  have hf5 : TPr H5 fa vs fs := ⟨hf.t.kd k5 d4 nf, hf.k⟩
  walk_at "st"
  by_cases c : r = 3
  · refine rd_iteB (decide_eq_true c) ?_
    refine rd_asg ?_
    refine lifted_ed he5 (by omega) fun q H6 us6 s6 f6 e6 => ?_
    refine rd_name ?_
    exact k16h_ok T sl sok (d5.same s6) n1 n4 nl (drl_ne d5 f6) nf (s6 _ _ hla5) up bl e6 (fun e h => by
      obtain ⟨e0, h0, rfl⟩ := List.mem_map.mp h
      obtain ⟨o, o2⟩ := oe e0 h0
      exact ⟨o.s0, o.s1, o.c, by show 0 ≤ e0.2.2.1 + 7; have := o.h0; omega, by show e0.2.2.1 + 7 ≤ 9; omega, o.g0, o.g1⟩) (by rw [List.length_map]; exact ze) ⟨hf5.t.same s6, hf5.k⟩ of zf h
  · refine rd_iteC (decide_eq_false c) ?_
    refine rd_next ?_
    exact k16h_ok T sl sok d5 n1 n4 nl ne nf hla5 up bl he5 (fun e h => (oe e h).1) ze hf5 of zf h
end Lw
namespace Lw
open PySem PySem.Spec PyProof.Rows L2
theorem law_binds {K : Frg} {f : Addr} {fd : FuncData} (F : FunD K "law" "law" (defArgs s_law) (defBody s_law) (defScope s_law) [] [] f fd) (s : Shared) (v : Value) : BindsTo s fd ⟨[v], []⟩ [("_law_script", v)] :=
  FunD.bindsA (ps := ["_law_script"]) F (fun _ _ _ _ _ _ us hl => match us, hl with | [_], _ => rfl) s [v] rfl
theorem given (w : World) (mg : PySem.Str → Option Value) (f : Addr) (h : Heap) (Y : ∃ K : Frg, K.In h ∧ Rz.SaysR fa fn K) (G : h.Ns mainGlobals mg) (e : mg "law" = some (.ref f)) : Rz.Given PySem.Challenge.rw_risensigns_k16_machine_reads 63 6 "_law_script" w mg f h := by
  obtain ⟨K, KX, c⟩ := Y
  have T : Txt PROG K mg := txt_of KX G c
  have e2 := e.symm.trans T.g_law
  cases e2
  obtain ⟨fd, _, F⟩ := ok_law (w := w) (base := h) T
  refine ⟨K, fd, sp_law K, KX, law_binds F, fun H a ns hl hS => law_ok T hS hl fun _ => rfl, fun base _ _ => ?_⟩
  obtain ⟨fd2, G2, F2⟩ := ok_law (w := w) (base := base) T
  cases Rz.fd_one F F2
  exact G2
end Lw
open PySem PySem.W PySem.Calls PyProof.Rows
theorem PySem.Challenge.cw_risensigns_k16_machine_reads_holds : PySem.Challenge.rw_risensigns_k16_machine_reads.Holds := by
  w_on; o_law
  refine HandSHeadRun.head_any (r := OpenLaw.row PySem.Challenge.rw_risensigns_k16_machine_reads) (q := view (OpenLaw.row PySem.Challenge.rw_risensigns_k16_machine_reads).prog [35]) (H := Lw.hk) (ob := Lw.ob) (M := 9000) (loose := Lw.loose) (d := HandSHeadRun.topDef (OpenLaw.row PySem.Challenge.rw_risensigns_k16_machine_reads).prog 35) (kwd := []) Lw.ob_eq
    (by kernel_rfl) (fun s => by kernel_rfl) Lw.run (by kernel_rfl) (by kernel_rfl) (by kernel_rfl) (by rfl) (by first | assumption | decide +kernel) (by decide +kernel) ⟨rfl, rfl, rfl, rfl, rfl, by decide +kernel⟩ ?hw ?hc
  case hw => w_witness2
  case hc =>
    refine Rz.endX (l := PySem.Challenge.rw_risensigns_k16_machine_reads) (n := 63) (k := 6) (x := "_law_script") rfl (by decide) (by kernel_rfl) ⟨rfl, by decide, by decide⟩ ?F
    intro w mg fa h Y G hmg0
    refine Lw.given w mg fa h Y G ?_
    have e : (HandSHeadRun.topDef (OpenLaw.row PySem.Challenge.rw_risensigns_k16_machine_reads).prog 35).name = ("law" : PySem.Str) := by kernel_rfl
    rw [← e]
    exact hmg0
