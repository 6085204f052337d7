import PyProof.Rows.All
import Wide.All
import OpenK.AllK
import Wide.FinOn
import KE.KStateDown
import KE.KExcSuper
import HandS.ForMost
import HandS.ForExc
import HandS.ExcInit
import HandS.ExcSuper
import KE.GoesEnum
import KE.GoesMore
import HandS.CallSlots
import HandS.Defaults
import HandS.IsInst
import HandS.Wide
import HandS.Walk
import HandS.Flow
import KE.KCallOwn
import HandS.Property
import HandS.ExcField
import HandS.HeadHook2
import HandS.Head0
import HandS.Head1
import HandS.Head2
import HandS.HeadEnd
import HandS.FStr
import KE.GoesZip
import KE.KDictZip
import KE.KItemsList
import HandS.ListItems
import KE.KOpsOwn
import KE.KOwnIter
import HandS.IterNext
import HandS.OwnEq
import HandS.Codes
import HandS.More
import KE.KIsAll
import HandS.Base
import HandS.Call
import HandS.Ends
import HandS.ExcCtx
import PyProof.InstEq
import PyProof.Rows.EqMixed
import HandS.SlotsOwn
import HandS.NamedTupSort
import KE.DataCmp
import PySem.Challenge.RW_risensigns_k03_rows_compared
set_option Elab.async false
set_option linter.all false
set_option maxRecDepth 100000
set_option maxHeartbeats 0
/-! Exceptions of the program: class X(..own.., ValueError) whose __init__ says super().__init__(text) and then stores at most one field. -/
namespace Rz
open PySem PySem.W PySem.Calls PyProof.Rows PySem.HandSPX

/-- the text of an __init__: super().__init__('..'); self.f = g -/
def exBody1 (msg f g : Str) (j : Nat) (p0 p1 p2 p3 p4 p5 q0 q1 q2 q3 : Pos) : List Stmt :=
  [.Expr (.Call (.Attribute (.Call (.Name "super" p0) [] [] p1) "__init__" p2) [.Constant (.str msg) j p3] [] p4) p5,
   .Assign [.Attribute (.Name "self" q0) f q1] (.Name g q2) q3]
def exBody0 (msg : Str) (j : Nat) (p0 p1 p2 p3 p4 p5 : Pos) : List Stmt :=
  [.Expr (.Call (.Attribute (.Call (.Name "super" p0) [] [] p1) "__init__" p2) [.Constant (.str msg) j p3] [] p4) p5]

/-- what the written part says of an exception class at C (whatever its __init__ is) -/
structure ExC (K : Frag) (C : Addr) : Prop where
  cls : ∃ nm q N bs bm sn sub ab col dd k0 k1 k2 k3 k5, K.lookup C = some (excClassObj nm q C N bs bm true sn sub ab col dd k0 k1 k2 k3 k5 "ValueError.__new__") ∧ refsVE bm = true
  sa : findIn K (.ref C) "__setattr__" = some (some (.builtin "object.__setattr__"))
  kC : keepIn K (.ref C) = true
  exC : subIn K (.ref C) (.type "BaseException") = some true
  veC : subIn K (.ref C) (.type "ValueError") = some true
  tyC : typeIn K (.ref C) = some (.type "type")
  op : nsIn K cStatics "thirdparty.any" = some none

/-- its own __init__ at fI, with the cell cc of __class__ and the code object cda -/
structure ExF (P : Program) (K : Frag) (C fI cc cda : Addr) (params : Arguments) (body : List Stmt) (scope : Scope) : Prop where
  iC : findIn K (.ref C) "__init__" = some (some (.ref fI))
  tI : typeIn K (.ref fI) = some (.type "function")
  fn : ∃ (oc : Value) (od : Option Addr) (name qual : Str) (kV doc pm ct : Value) (an : Option Addr) (osl : Array (Option Value)),
    K.lookup fI = some ⟨oc, od, .func (fnX name qual params body scope [("__class__", cc)] .none kV doc pm an (.ref cda) ct), osl⟩ ∧ codeIn K (.ref cda) qual = true
  code : ∃ (ccl : Value) (cdd : Option Addr) (vs : Array Value) (ccs : Array (Option Value)) (file : Str) (tf : Tok),
    K.lookup cda = some ⟨ccl, cdd, .fields vs, ccs⟩ ∧ vs[2]? = some (.str file tf) ∧ ((P.main.file : Str) == file) = true
  cell : ∃ (cl : Value) (cld : Option Addr) (csl : Array (Option Value)), K.lookup cc = some ⟨cl, cld, .cell (some (.ref C)), csl⟩
  sup : ks_superIn K C C "__init__" = some (some (.builtin "ValueError.__init__"))
  top : (P.main.scope.names.lookup ("super" : Str)).isSome = false

def SupOk (scope : Scope) (cc cda fI : Addr) (msg : Str) (j : Nat) (p0 p1 p2 p3 p4 p5 : Pos) : Prop := ∀ (qual : Str) (L : Addr), ∃ pl : Sem Bool,
  swapsWith (.Call (.Attribute (.Call (.Name "super" p0) [] [] p1) "__init__" p2) [.Constant (.str msg) j p3] [] p4) none p5.line (envX qual scope L fI (.ref cda) [("__class__", cc)]) = pure false ∧
  eval (.Call (.Attribute (.Call (.Name "super" p0) [] [] p1) "__init__" p2) [.Constant (.str msg) j p3] [] p4) (envX qual scope L fI (.ref cda) [("__class__", cc)]) = (do
      let ov ← attributeBase (.Call (.Name "super" p0) [] [] p1) "__init__" (envX qual scope L fI (.ref cda) [("__class__", cc)]) (eval (.Call (.Name "super" p0) [] [] p1) (envX qual scope L fI (.ref cda) [("__class__", cc)]))
      standAt p2.atName
      let (f, first) ← holding [ov] (getMethod ov "__init__" pl)
      callWith p4 f first (backTo p4 (starEach [.Constant (.str msg) j p3] (envX qual scope L fI (.ref cda) [("__class__", cc)]))) [])

theorem kept_but {K : Frag} {h h' : Heap} {x : Addr} (X : K.In h) (hx : K.lookup x = none) (k : ∀ b o, b ≠ x → h.get? b = some o → h'.get? b = some o) : K.In h' := fun a o e =>
  k a o (fun z => by rw [z, hx] at e; cases e) (X a o e)

section
variable {prog : Program} {w : World} {A : Around} {E : Value → Shared → Prop} {R : Result → Shared → Prop} {h : Heap} {g : Array GenState} {d : Drawn} {t : Nat} {os : OsState}
variable {nm q : Str} {C N : Addr} {bs bm : List Value} {hdct : Bool} {sn : List Str} {sub : List Value} {ab : Bool} {col : Option Bool} {dd : Option Addr} {k0 k1 k2 k3 k5 : Option Value}
/-- the bound ValueError.__init__ is called -/
theorem call_mw {u e t0 : Addr} {rest : List Value} {Q : Value → Shared → Prop}
    (hC : h.get? C = some (excClassObj nm q C N bs bm hdct sn sub ab col dd k0 k1 k2 k3 k5 "ValueError.__new__")) (he : h.get? e = some (excO C t0)) (hu : h.get? u = some (kxs_mw "ValueError.__init__" e)) (hrest : rest.length ≤ sizeLine)
    (hq : ∀ h' t1, (∀ b o, b ≠ e → h.get? b = some o → h'.get? b = some o) → h'.get? e = some (excO C t1) → Q .none ⟨h', g, d, t, os⟩) :
    wpAny (model prog w) A (call (.ref u) rest) Q E ⟨h, g, d, t, os⟩ := by
  refine wpAny_call (codeAny_of_tree ?_)
  show wpAny _ A.in1 (callAny (.ref u) ⟨rest, []⟩) _ _ _
  simp only [callAny]
  refine wpAny_bind (wpAny_load hu ?_)
  simp only [kxs_mw, show (Value.type "method-wrapper" == Value.type "method" || Value.type "method-wrapper" == Value.type "builtin_function_or_method" || Value.type "method-wrapper" == Value.type "method-wrapper") = true by decide, if_true]
  refine KFB.if_so (by decide) ?_
  refine wpAny_bind (check_bound_init F.excBase_ValueError.toExcCallFacts hC he rfl ?_)
  refine wpAny_bind (wpAny_pure (wpAny_pure ?_))
  refine ⟨plainId_quiet F.excBase_ValueError.init.plain _, codeAny_builtin F.excBase_ValueError.initEntry ?_⟩
  rw [Around.under_plainId F.excBase_ValueError.init.plain _]
  wp_walk
  refine hq _ h.objs.size (fun b o hb ho => ?_) ?_
  · rw [Heap.get?_update_other _ _ (Ne.symm hb)]
    exact Heap.get?_push_of_some _ ho
  · rw [Heap.get?_update_self _ (Heap.get?_push_of_some _ he) rfl]
    rfl
end

section
variable {prog : Program} {w : World} {A : Around} {E : Value → Shared → Prop} {R : Result → Shared → Prop} {s : Shared} {K : Frag} {mg : Str → Option Value} {C fI cc cda : Addr} {params : Arguments} {body : List Stmt} {scope : Scope}
/-- the statement super().__init__('..') -/
theorem sup_stmt {bodyT : List Stmt} {qual msg : Str} {j : Nat} {p0 p1 p2 p3 p4 p5 : Pos} {L x t0 : Addr} {m : Str → Option Value} {a0 : Arg} {Q : Flow → Shared → Prop} (T0 : ExC K C) (T : ExF prog K C fI cc cda params body scope)
    (X : K.In s.heap) (hg : s.heap.Ns mainGlobals mg) (hgs : mg "super" = none) (hb : ∃ mb, s.heap.Ns builtinsNs mb ∧ mb "super" = some (.type "super")) (hL : s.heap.Ns L m) (hself : m "self" = some (.ref x)) (hx : s.heap.get? x = some (excO C t0))
    (hk : scope.kind = .function) (hks : scope.names.lookup ("super" : Str) = some .globalImplicit) (hkc : scope.names.lookup ("__class__" : Str) = some .free) (hka : scope.names.lookup ("self" : Str) = some .local)
    (hp : (params.posonlyargs ++ params.args).head? = some a0) (ha0 : a0.arg = "self")
    (hev : SupOk scope cc cda fI msg j p0 p1 p2 p3 p4 p5)
    (hi : interactive (envX qual scope L fI (.ref cda) [("__class__", cc)]) = false)
    (hq : ∀ h' tk t1, (∀ b o, b ≠ x → s.heap.get? b = some o → h'.get? b = some o) → h'.get? x = some (excO C t1) → Q .next { s with heap := h', toks := tk }) :
    _root_.PySem.wpAt (model prog w) A (.func bodyT (envX qual scope L fI (.ref cda) [("__class__", cc)])) (exec (.Expr (.Call (.Attribute (.Call (.Name "super" p0) [] [] p1) "__init__" p2) [.Constant (.str msg) j p3] [] p4) p5) (envX qual scope L fI (.ref cda) [("__class__", cc)])) Q E s := by
  obtain ⟨oc, od, name, qu, kV, doc, pm, ct, an, osl, hf, hcd⟩ := T.fn
  obtain ⟨ccl, cdd, vs, ccs, file, tf, hcode, hvs, hfile⟩ := T.code
  obtain ⟨cl, cld, csl, hcell⟩ := T.cell
  obtain ⟨nm, q, N, bs, bm, sn, sub, ab, col, dd, k0, k1, k2, k3, k5, hC, hbm⟩ := T0.cls
  obtain ⟨mb, hmb, hmbs⟩ := hb
  obtain ⟨hh, g, d, t, os⟩ := s
  obtain ⟨pl, hsw, hev⟩ := hev qual L
  refine ks_wpAt_Expr_any ?_ hi hsw
  refine ks_wpAt_MethodCall (pl := pl) ?_ hev
  refine ks_wpAt_super_base (env := envX qual scope L fI (.ref cda) [("__class__", cc)]) hks hkc rfl rfl (X _ _ hf) rfl hp rfl (X _ _ hcode) rfl hvs hfile T.top ?_
  refine ks_loadName_global hk hks (loadGlobal_builtin (env := envX qual scope L fI (.ref cda) [("__class__", cc)]) hg hgs hmb hmbs ⟨rfl, ?_⟩)
  refine wpAny_loadName_free hk hkc rfl ⟨_, X _ _ hcell, rfl⟩ ?_
  rw [ha0]
  refine wpAny_loadName_local hk hka hL hself ?_
  have hC1 := X _ _ hC
  refine ks_wpAny_isType_cls hC1 rfl ⟨rfl, ?_⟩
  have hcl : clsIn K C = some { name := nm, bases := bs, mro := .ref C :: bm, ns := N, qualname := q, hasDict := true, slotNames := sn, subclasses := sub, abstract := ab, collection := col, hasDel := false } := by unfold clsIn; rw [hC] <;> rfl
  have hmro : mroIn K C (.ref C) = some true := by
    unfold mroIn
    rw [hcl]
    show (if List.isEmpty (Value.ref C :: bm) = true then none else some (List.contains (Value.ref C :: bm) (Value.ref C))) = some true
    rw [if_neg (by simp)]
    simp
  refine ks_wpAny_call_super (ox := excO C t0) hC1 rfl hx rfl (fun c e => by cases e) (looks_mroIn X hmro) (fun h' e k => ?_)
  -- the method
  have X' : K.In h' := X.keeps k
  have hx' := k _ _ hx
  have I' : InstAt h' x (excO C t0) C none := ⟨hx', rfl, rfl, trivial⟩
  have hI : Looks (model prog w) h' (isInstance (.ref x) (.type "ValueError")) true := I'.type.andThen (looks_subIn X' T0.veC)
  have hsup := T.sup
  unfold ks_superIn at hsup
  rw [hcl] at hsup
  refine kxs_getMethod kxs_ValueError e (looks_opaque X' T0.op) (l₀ := .ref C :: bm) (fun A Q E s k q => wpAny_bind ((looks_clsIn X' hcl) A _ E s k (wpAny_pure q))) rfl X' hsup hI (ks_ne X' I' hcl) (by decide) ?_
  have k2 : ∀ b o, hh.get? b = some o → (h'.push (kxs_mw "ValueError.__init__" x)).get? b = some o := fun b o z => Heap.get?_push_of_some _ (k b o z)
  have hst : starEach [.Constant (.str msg) j p3] (envX qual scope L fI (.ref cda) [("__class__", cc)]) = (false, eval (.Constant (.str msg) j p3) (envX qual scope L fI (.ref cda) [("__class__", cc)])) :: [] := rfl
  show wpAny _ _ (callWith p4 (.ref h'.objs.size) [] (backTo p4 (starEach [.Constant (.str msg) j p3] (envX qual scope L fI (.ref cda) [("__class__", cc)]))) []) _ _ _
  rw [hst]
  refine kxs_callWith (i := "ValueError.__init__") (x := x) (by rfl) ?_
  refine evalArgs_plain ?_
  show wpAny _ _ (spliced ((false, eval (.Constant (.str msg) j p3) _) :: [])) _ _ _
  refine Calls.spliced_cons (Calls.Constant_str (Calls.spliced_nil ⟨Heap.get?_push_at rfl rfl, ?_⟩))
  exact call_mw (k2 _ _ hC1) (k2 _ _ hx) (Heap.get?_push_at rfl rfl) (by show 1 ≤ sizeLine; rw [sizeLine_eq]; decide) (fun h2 t1 k3 hx2 => hq h2 _ t1 (fun b o hb z => k3 b o hb (k2 b o z)) hx2)
end

/-- what __init__ leaves of a fresh exception at x -/
structure InitEnd (h h' : Heap) (x C dx t1 : Addr) (f : Str) (v : Value) : Prop where
  keep : ∀ b o, b ≠ x → h.get? b = some o → h'.get? b = some o
  obj : h'.get? x = some { cls := .ref C, dict := some dx, data := .fields #[.ref t1, .none, .none, .none, .bool false, .none] }
  dbig : h.objs.size ≤ dx
  dne : dx ≠ x
  ns : h'.Ns1 dx (fun y => if y = f then some v else none)
structure InitEnd0 (h h' : Heap) (x C t1 : Addr) : Prop where
  keep : ∀ b o, b ≠ x → h.get? b = some o → h'.get? b = some o
  obj : h'.get? x = some { cls := .ref C, data := .fields #[.ref t1, .none, .none, .none, .bool false, .none] }
/-- the globals that an __init__ looks at -/
structure Gls (h : Heap) (mg : Str → Option Value) : Prop where
  g : h.Ns mainGlobals mg
  s : mg "super" = none
  b : ∃ mb, h.Ns builtinsNs mb ∧ mb "super" = some (.type "super")
theorem Gls.keeps {h h' : Heap} {mg : Str → Option Value} (G : Gls h mg) (k : ∀ b o, h.get? b = some o → h'.get? b = some o) : Gls h' mg := ⟨G.g.keeps k, G.s, let ⟨mb, a, b⟩ := G.b; ⟨mb, a.keeps k, b⟩⟩
/-- the scope's and parameters' facts -/
structure ScB (scope : Scope) (params : Arguments) : Prop where
  hk : scope.kind = .function
  hks : scope.names.lookup ("super" : Str) = some .globalImplicit
  hkc : scope.names.lookup ("__class__" : Str) = some .free
  hka : scope.names.lookup ("self" : Str) = some .local
  hp : ∃ a0, (params.posonlyargs ++ params.args).head? = some a0 ∧ a0.arg = "self"
  hcell : ∀ x ∈ scope.names, x.2 ≠ .cell
structure ScI (scope : Scope) (params : Arguments) (g : Str) : Prop extends ScB scope params where
  hkg : scope.names.lookup g = some .local
  hgs : ("self" : Str) ≠ g
  hgd : (g == ("__debug__" : Str)) = false
section
variable {prog : Program} {w : World} {A : Around} {E : Value → Shared → Prop} {R : Result → Shared → Prop} {s : Shared} {K : Frag} {mg : Str → Option Value} {C fI cc cda : Addr} {params : Arguments} {scope : Scope}
theorem ldX {M : Model} {env : Env} {m : Str → Option Value} {x : Str} {pos : Pos} {v : Value} {Q : Value → Shared → Prop} (hn : s.heap.Ns env.locals m) (hv : m x = some v) (h : Q v s)
    (hk : env.scope.kind = .function) (hl : env.kindOf x = some .local) (hd : (x == ("__debug__" : Str)) = false) : wpAny M A (eval (.Name x pos) env) Q E s := wpAny_Name (wpAny_loadName_local hk hl hn hv h) hd
theorem exc_init1 {msg f g : Str} {j : Nat} {p0 p1 p2 p3 p4 p5 q0 q1 q2 q3 : Pos} {x t0 : Addr} {v : Value} (T0 : ExC K C) (T : ExF prog K C fI cc cda params (exBody1 msg f g j p0 p1 p2 p3 p4 p5 q0 q1 q2 q3) scope) (S : ScI scope params g) (hev : SupOk scope cc cda fI msg j p0 p1 p2 p3 p4 p5)
    (hno : findIn K (.ref C) f = some none) (hgen : scope.isGenerator = false) (hco : scope.isCoroutine = false)
    (hbind : ∀ (name qual : Str) (body : List Stmt) (kV doc pm ct : Value) (an : Option Addr), bindArgs (fnX name qual params body scope [("__class__", cc)] .none kV doc pm an (.ref cda) ct) ⟨[.ref x, v], []⟩ = pure [(("self" : Str), Value.ref x), (g, v)])
    (X : K.In s.heap) (G : Gls s.heap mg) (hlim : s.heap.NoLimit) (hx : s.heap.get? x = some (excO C t0)) (hnx : K.lookup x = none) (hroom : A.depth < recursionLimit) 
    (hq : ∀ h' tk dx t1, InitEnd s.heap h' x C dx t1 f v → R (.ok (.ret .none)) { s with heap := h', toks := tk }) :
    codeAny (model prog w) A (.call (.ref fI) ⟨[.ref x, v], []⟩) R s := by
  obtain ⟨oc, od, name, qual, kV, doc, pm, ct, an, osl, hf, hcd⟩ := T.fn
  obtain ⟨nm, q, N, bs, bm, sn, sub, ab, col, dd, k0, k1, k2, k3, k5, hC, hbm⟩ := T0.cls
  obtain ⟨a0, hp, ha0⟩ := S.hp
  have hcl : clsIn K C = some { name := nm, bases := bs, mro := .ref C :: bm, ns := N, qualname := q, hasDict := true, slotNames := sn, subclasses := sub, abstract := ab, collection := col, hasDel := false } := by unfold clsIn; rw [hC] <;> rfl
  refine ks_codeAny_call_defAt hroom (X _ _ hf) rfl hlim (codeRec_of X hcd) rfl (.of_eq (hbind _ _ _ _ _ _ _ _)) S.hcell (fun y hy => ?_) (fun h0 hns k => ?_) hco hgen S.hk
  · simp only [List.mem_cons, List.not_mem_nil, or_false] at hy
    rcases hy with rfl | rfl
    · exact S.hka
    · exact S.hkg
  have m1 : (([("self", Value.ref x), (g, v)] : List (Str × Value)).reverse.lookup ("self" : Str)) = some (.ref x) := by
    show List.lookup ("self" : Str) [(g, v), ("self", Value.ref x)] = _
    have e : (("self" : Str) == g) = false := by simpa using S.hgs
    simp [List.lookup, e]
  have m2 : (([("self", Value.ref x), (g, v)] : List (Str × Value)).reverse.lookup g) = some v := by
    show List.lookup g [(g, v), ("self", Value.ref x)] = _
    simp [List.lookup]
  have hxL : s.heap.objs.size ≠ x := Nat.ne_of_gt (Heap.lt_size hx)
  refine ks_wpAt_execs_cons (sup_stmt T0 T (X.keeps k) (G.keeps k).g G.s (G.keeps k).b hns m1 (k _ _ hx) S.hk S.hks S.hkc S.hka hp ha0 hev (by show interactive _ = false; simp [interactive, S.hk]) (fun h1 tk t1 k1 hx1 => ?_))
  have X1 : K.In h1 := kept_but (X.keeps k) hnx k1
  have hns1 : h1.Ns s.heap.objs.size (fun y => (([("self", Value.ref x), (g, v)] : List (Str × Value)).reverse.lookup y)) := by
    obtain ⟨o, es, ep, ho, r⟩ := hns
    exact ⟨o, es, ep, k1 _ o hxL ho, r⟩
  refine _root_.PySem.wpAt_of_wpAny ?_
  refine wpAny_execs_cons (plainObj_wpAny_Assign_Attribute ?_ (by rfl))
  refine ldX (v := v) hns1 m2 (ldX (v := .ref x) hns1 m1 ?_ S.hk S.hka rfl) S.hk S.hkg S.hgd
  refine set_plain X1 (ox := excO C t1) (od := none) ⟨hx1, rfl, rfl, trivial⟩ T0.sa ?_
  refine exc_osa X1 hx1 hcl (show refsVE (.ref C :: bm) = true from hbm) rfl hno (fun h₃ tk₃ dx k₃ dn dne hx₃ hn₃ => ?_)
  refine wpAny_execs_nil (hq h₃ tk₃ dx t1 ⟨fun b o hb e => k₃ b o hb (k1 b o hb (k b o e)), hx₃, ?_, dne, hn₃⟩)
  obtain ⟨oL, _, _, hoL, _⟩ := hns1
  have z : s.heap.objs.size < h1.objs.size := Heap.lt_size hoL
  exact Nat.le_of_lt (Nat.lt_of_lt_of_le z dn)
theorem exc_init0 {msg : Str} {j : Nat} {p0 p1 p2 p3 p4 p5 : Pos} {x t0 : Addr} (T0 : ExC K C) (T : ExF prog K C fI cc cda params (exBody0 msg j p0 p1 p2 p3 p4 p5) scope) (S : ScB scope params) (hev : SupOk scope cc cda fI msg j p0 p1 p2 p3 p4 p5)
    (hgen : scope.isGenerator = false) (hco : scope.isCoroutine = false)
    (hbind : ∀ (name qual : Str) (body : List Stmt) (kV doc pm ct : Value) (an : Option Addr), bindArgs (fnX name qual params body scope [("__class__", cc)] .none kV doc pm an (.ref cda) ct) ⟨[.ref x], []⟩ = pure [(("self" : Str), Value.ref x)])
    (X : K.In s.heap) (G : Gls s.heap mg) (hlim : s.heap.NoLimit) (hx : s.heap.get? x = some (excO C t0)) (hnx : K.lookup x = none) (hroom : A.depth < recursionLimit)
    (hq : ∀ h' tk t1, InitEnd0 s.heap h' x C t1 → R (.ok (.ret .none)) { s with heap := h', toks := tk }) :
    codeAny (model prog w) A (.call (.ref fI) ⟨[.ref x], []⟩) R s := by
  obtain ⟨oc, od, name, qual, kV, doc, pm, ct, an, osl, hf, hcd⟩ := T.fn
  obtain ⟨a0, hp, ha0⟩ := S.hp
  refine ks_codeAny_call_defAt hroom (X _ _ hf) rfl hlim (codeRec_of X hcd) rfl (.of_eq (hbind _ _ _ _ _ _ _ _)) S.hcell (fun y hy => ?_) (fun h0 hns k => ?_) hco hgen S.hk
  · simp only [List.mem_cons, List.not_mem_nil, or_false] at hy
    subst hy
    exact S.hka
  have m1 : (([("self", Value.ref x)] : List (Str × Value)).reverse.lookup ("self" : Str)) = some (.ref x) := by
    show List.lookup ("self" : Str) [("self", Value.ref x)] = _
    simp [List.lookup]
  refine ks_wpAt_execs_cons (sup_stmt T0 T (X.keeps k) (G.keeps k).g G.s (G.keeps k).b hns m1 (k _ _ hx) S.hk S.hks S.hkc S.hka hp ha0 hev (by show interactive _ = false; simp [interactive, S.hk]) (fun h1 tk t1 k1 hx1 => ?_))
  refine _root_.PySem.wpAt_of_wpAny ?_
  exact wpAny_execs_nil (hq h1 _ t1 ⟨fun b o hb e => k1 b o hb (k b o e), hx1⟩)
end

/-- an exception class with one field f | with none -/
structure ExOne (P : Program) (K : Frag) (C : Addr) (f : Str) : Prop where
  c : ExC K C
  no : findIn K (.ref C) f = some none
  ex : ∃ (fI cc cda : Addr) (params : Arguments) (msg g : Str) (j : Nat) (p0 p1 p2 p3 p4 p5 q0 q1 q2 q3 : Pos) (scope : Scope), ExF P K C fI cc cda params (exBody1 msg f g j p0 p1 p2 p3 p4 p5 q0 q1 q2 q3) scope ∧ ScI scope params g ∧
    SupOk scope cc cda fI msg j p0 p1 p2 p3 p4 p5 ∧ scope.isGenerator = false ∧ scope.isCoroutine = false ∧
    ∀ (x : Addr) (v : Value) (name qual : Str) (body : List Stmt) (kV doc pm ct : Value) (an : Option Addr), bindArgs (fnX name qual params body scope [("__class__", cc)] .none kV doc pm an (.ref cda) ct) ⟨[.ref x, v], []⟩ = pure [(("self" : Str), Value.ref x), (g, v)]
structure ExZero (P : Program) (K : Frag) (C : Addr) : Prop where
  c : ExC K C
  ex : ∃ (fI cc cda : Addr) (params : Arguments) (msg : Str) (j : Nat) (p0 p1 p2 p3 p4 p5 : Pos) (scope : Scope), ExF P K C fI cc cda params (exBody0 msg j p0 p1 p2 p3 p4 p5) scope ∧ ScB scope params ∧
    SupOk scope cc cda fI msg j p0 p1 p2 p3 p4 p5 ∧ scope.isGenerator = false ∧ scope.isCoroutine = false ∧
    ∀ (x : Addr) (name qual : Str) (body : List Stmt) (kV doc pm ct : Value) (an : Option Addr), bindArgs (fnX name qual params body scope [("__class__", cc)] .none kV doc pm an (.ref cda) ct) ⟨[.ref x], []⟩ = pure [(("self" : Str), Value.ref x)]
/-- a made exception -/
structure OwnMade (h h' : Heap) (e C d : Addr) (f : Str) (v : Value) : Prop where
  keep : ∀ b o, h.get? b = some o → h'.get? b = some o
  new : h.objs.size ≤ e
  obj : ∃ oe vs, h'.get? e = some oe ∧ oe.cls = .ref C ∧ oe.dict = some d ∧ oe.data = .fields vs ∧ vs[1]? = some .none
  dbig : h.objs.size ≤ d
  dne : d ≠ e
  ns : h'.Ns1 d (fun y => if y = f then some v else none)
structure OwnMade0 (h h' : Heap) (e C : Addr) : Prop where
  keep : ∀ b o, h.get? b = some o → h'.get? b = some o
  new : h.objs.size ≤ e
  obj : ∃ oe vs, h'.get? e = some oe ∧ oe.cls = .ref C ∧ oe.dict = none ∧ oe.data = .fields vs ∧ vs[1]? = some .none
theorem one_size (v : Value) : [v].length ≤ sizeLine := by
  rw [sizeLine_eq]
  exact (by decide : 1 ≤ 16777216)
section
variable {prog : Program} {w : World} {A : Around} {E : Value → Shared → Prop} {R : Result → Shared → Prop} {s : Shared} {K : Frag} {mg : Str → Option Value} {C : Addr} {f : Str}
theorem exc_made1 (T : ExOne prog K C f) {v : Value} (X : K.In s.heap) (G : Gls s.heap mg) (hlim : s.heap.NoLimit) (hroom : A.depth + 1 < recursionLimit)
    (hq : ∀ h' tk e d, OwnMade s.heap h' e C d f v → R (.ok (.ret (.ref e))) { s with heap := h', toks := tk }) :
    codeAny (model prog w) A (.call (.ref C) ⟨[v], []⟩) R s := by
  obtain ⟨fI, cc, cda, params, msg, g, j, p0, p1, p2, p3, p4, p5, q0, q1, q2, q3, scope, TF, S, hev, hgen, hco, hbind⟩ := T.ex
  obtain ⟨nm, q, N, bs, bm, sn, sub, ab, col, dd, k0, k1, k2, k3, k5, hC, hbm⟩ := T.c.cls
  obtain ⟨hp, gg, dr, tk, os⟩ := s
  have k : ∀ b o, hp.get? b = some o → ((hp.push (kdv_tup [v])).push (excO C hp.objs.size)).get? b = some o := fun b o e => Heap.get?_push_of_some _ (Heap.get?_push_of_some _ e)
  have hget : ((hp.push (kdv_tup [v])).push (excO C hp.objs.size)).get? (hp.objs.size + 1) = some (excO C hp.objs.size) := by heap_get
  have hnx : K.lookup (hp.objs.size + 1) = none := by
    cases e : K.lookup (hp.objs.size + 1) with
    | none => rfl
    | some o =>
      have z : hp.get? (hp.objs.size + 1) = some o := X _ _ e
      exact absurd (Nat.lt_of_succ_lt (Heap.lt_size z)) (Nat.lt_irrefl _)
  refine call_own F.excBase_ValueError (fun X => refsVE_contains X bm hbm) (X _ _ hC) (looks_findIn X TF.iC) (fun self => bind_fn X self TF.tI) (one_size v) ?_
  refine exc_init1 (mg := mg) (s := ⟨(hp.push (kdv_tup [v])).push (excO C hp.objs.size), gg, dr, tk, os⟩) T.c TF S hev T.no hgen hco (fun name qual body kV doc pm ct an => hbind _ _ name qual body kV doc pm ct an) (X.keeps k) (G.keeps k) (hlim.keeps k) hget hnx ?_ fun h' tk' dx t1 ⟨k', hx, dn, dne, hns⟩ => ?_
  · show A.depth + 1 < recursionLimit
    exact hroom
  · have old : ∀ b o, hp.get? b = some o → h'.get? b = some o := fun b o e => k' b o (Nat.ne_of_lt (Nat.lt_succ_of_lt (Heap.lt_size e))) (k b o e)
    have z : hp.objs.size + 1 + 1 ≤ dx := by
      first
        | (simpa only [Heap.size_push] using dn)
        | exact dn
        | (have q := dn; rw [Heap.size_push, Heap.size_push] at q; exact q)
    exact ⟨rfl, hq h' tk' (hp.objs.size + 1) dx ⟨old, Nat.le_succ _, ⟨_, _, hx, rfl, rfl, rfl, rfl⟩, Nat.le_trans (Nat.le_trans (Nat.le_succ _) (Nat.le_succ _)) z, dne, hns⟩⟩
theorem exc_made0 (T : ExZero prog K C) (X : K.In s.heap) (G : Gls s.heap mg) (hlim : s.heap.NoLimit) (hroom : A.depth + 1 < recursionLimit)
    (hq : ∀ h' tk e, OwnMade0 s.heap h' e C → R (.ok (.ret (.ref e))) { s with heap := h', toks := tk }) :
    codeAny (model prog w) A (.call (.ref C) ⟨[], []⟩) R s := by
  obtain ⟨fI, cc, cda, params, msg, j, p0, p1, p2, p3, p4, p5, scope, TF, S, hev, hgen, hco, hbind⟩ := T.ex
  obtain ⟨nm, q, N, bs, bm, sn, sub, ab, col, dd, k0, k1, k2, k3, k5, hC, hbm⟩ := T.c.cls
  obtain ⟨hp, gg, dr, tk, os⟩ := s
  have k : ∀ b o, hp.get? b = some o → ((hp.push (kdv_tup [])).push (excO C hp.objs.size)).get? b = some o := fun b o e => Heap.get?_push_of_some _ (Heap.get?_push_of_some _ e)
  have hget : ((hp.push (kdv_tup [])).push (excO C hp.objs.size)).get? (hp.objs.size + 1) = some (excO C hp.objs.size) := by heap_get
  have hnx : K.lookup (hp.objs.size + 1) = none := by
    cases e : K.lookup (hp.objs.size + 1) with
    | none => rfl
    | some o =>
      have z : hp.get? (hp.objs.size + 1) = some o := X _ _ e
      exact absurd (Nat.lt_of_succ_lt (Heap.lt_size z)) (Nat.lt_irrefl _)
  refine call_own F.excBase_ValueError (fun X => refsVE_contains X bm hbm) (X _ _ hC) (looks_findIn X TF.iC) (fun self => bind_fn X self TF.tI) (by show 0 ≤ sizeLine; exact Nat.zero_le _) ?_
  refine exc_init0 (mg := mg) (s := ⟨(hp.push (kdv_tup [])).push (excO C hp.objs.size), gg, dr, tk, os⟩) T.c TF S hev hgen hco (fun name qual body kV doc pm ct an => hbind _ name qual body kV doc pm ct an) (X.keeps k) (G.keeps k) (hlim.keeps k) hget hnx ?_ fun h' tk' t1 ⟨k', hx⟩ => ?_
  · show A.depth + 1 < recursionLimit
    exact hroom
  · have old : ∀ b o, hp.get? b = some o → h'.get? b = some o := fun b o e => k' b o (Nat.ne_of_lt (Nat.lt_succ_of_lt (Heap.lt_size e))) (k b o e)
    exact ⟨rfl, hq h' tk' (hp.objs.size + 1) ⟨old, Nat.le_succ _, ⟨_, _, hx, rfl, rfl, rfl, rfl⟩⟩⟩
end
end Rz

namespace L2
open PySem PySem.Spec PyProof.Rows
theorem relO_one {v : V} {v' : Value} (r : RelV v v') (fl f : Str) : RelO (List.lookup f [(fl, v)]) (if f = fl then some v' else none) := by
  by_cases hw : f = fl
  · subst hw
    rw [if_pos rfl]
    have q : List.lookup f [(f, v)] = some v := by simp [List.lookup]
    rw [q]
    exact r
  · rw [if_neg hw]
    have qw : (f == fl) = false := by simpa using hw
    have q2 : List.lookup f [(fl, v)] = none := by simp [List.lookup, qw]
    rw [q2]
    trivial
section
variable {X : Cx} {C : Addr}
theorem Inv.gls {pins : List (Addr × Obj)} {σ : St} {H : Hp} {s : Shared} (I : Inv X pins σ H s) (hs : X.mg "super" = none) : Rz.Gls s.heap X.mg :=
  ⟨I.mod.glob.keeps I.bk, hs, let ⟨mb, h1, h2⟩ := I.mod.blt; ⟨mb, h1.keeps I.bk, (h2 "super" (by decide)).trans (by decide +kernel)⟩⟩
/-- C(e), an exception with one field -/
def tMkX (C : Addr) (f : Str) (ta : TA) : St → Hp → XK → Prop := fun σ H Q => ta σ H fun vs H1 => ∃ v, vs = [v] ∧ ∀ d, H1 d = none → Q (.ref C) (some d) (upd H1 d (.xd [(f, v)]))
theorem pmk_sup1 {x f : Str} {a : Expr} {ta : TA} {p pos : Pos} {k : Nat} (T : Rz.ExOne X.prog X.K C f) (hs : X.mg "super" = none) (hr : Room k X.A) (hg : Gl X x) (hm : X.mg x = some (.ref C)) (ha : PA X [a] ta)
    (hdb : (x == ("__debug__" : Str)) = false := by decide)
    (he : starEach (a :: []) X.env = (false, eval a X.env) :: starEach [] X.env := by rfl) (hpl : (backTo pos (starEach [] X.env)).any (·.1) = false := by rfl) :
    PMk X (.Call (.Name x p) [a] [] pos) (tMkX C f ta) := by
  intro pins s σ H Q I h
  refine wpAny_Call_Name_kw (ld_glob I hg hm ?_ hdb)
  refine PySem.W.callWith_K (h₀ := X.base) I.ok.mod.kin T.c.kC (thn (ha.run pos pins s σ H _ I h) fun us s1 hh => ?_) he hpl
  obtain ⟨vs, H1, I1, r1, v, ev, q1⟩ := hh
  subst ev
  refine ⟨I1.kIn, ?_⟩
  cases r1 with
  | cons rv rn =>
    rename_i v' us'
    cases rn
    show wpAny _ _ (call (.ref C) [v']) _ _ _
    have hlim := I1.nolimit
    have G := I1.gls hs
    obtain ⟨hp, g, dr, tk, os⟩ := s1
    refine wpAny_call (Rz.exc_made1 (mg := X.mg) T I1.kIn G hlim (by have := hr.dp; omega) fun h' tk' e d M => ?_)
    show MkP X pins σ Q (.ref e) ⟨h', g, dr, tk', os⟩
    obtain ⟨oe, fv, hoe, hc, hd, hdat, h1⟩ := M.obj
    have hns := M.ns
    obtain ⟨G', g1, g2⟩ := restrict h' fun b => decide (b ≠ e)
    have gk : ∀ b, b ≠ e → G'.get? b = h'.get? b := fun b hb => g1 b (decide_eq_true hb)
    have ge : G'.get? e = none := g2 e (by simp)
    have old : ∀ b o, hp.get? b = some o → G'.get? b = some o := fun b o q => (gk b (Nat.ne_of_lt (Nat.lt_of_lt_of_le (Heap.lt_size q) M.new))).trans (M.keep b o q)
    have hns' : G'.Ns1 d (fun y => if y = f then some v' else none) := by
      obtain ⟨o, es, ep, ho, r⟩ := hns
      exact ⟨o, es, ep, (gk d M.dne).trans ho, r⟩
    have J : Inv X pins σ (upd H1 d (.xd [(f, v)])) ⟨G', g, dr, tk', os⟩ := I1.laid (t' := tk') old M.dbig ⟨_, hns', relO_one rv f⟩
    refine ⟨e, oe, fv, ⟨G', g, dr, tk', os⟩, _, .ref C, some d, rfl, J, fun b o q => ?_, ge, hoe, ⟨hc, hd⟩, hdat, h1, ?_, rfl, J.bare, raises_own T.c.exC T.c.tyC, q1 d (I1.hok.fresh M.dbig)⟩
    · by_cases hb : b = e
      · have q' : G'.get? b = some o := q
        rw [hb, ge] at q'; cases q'
      · exact (gk b hb).symm.trans q
    · rw [upd_ne (Ne.symm M.dne)]
      exact I1.hok.fresh M.new
/-- C(), an exception without fields -/
def tMkX0 (C : Addr) : St → Hp → XK → Prop := fun _ H Q => Q (.ref C) none H
theorem pmk_sup0 {x : Str} {p pos : Pos} {k : Nat} (T : Rz.ExZero X.prog X.K C) (hs : X.mg "super" = none) (hr : Room k X.A) (hg : Gl X x) (hm : X.mg x = some (.ref C))
    (hdb : (x == ("__debug__" : Str)) = false := by decide) : PMk X (.Call (.Name x p) [] [] pos) (tMkX0 C) := by
  intro pins s σ H Q I h
  refine wpAny_Call_Name_kw (ld_glob I hg hm ?_ hdb)
  refine PySem.W.callWith_K0 I.kIn T.c.kC ?_
  have hlim := I.nolimit
  have G := I.gls hs
  obtain ⟨hp, g, dr, tk, os⟩ := s
  refine wpAny_call (Rz.exc_made0 (mg := X.mg) T I.kIn G hlim (by have := hr.dp; omega) fun h' tk' e M => ?_)
  show MkP X pins σ Q (.ref e) ⟨h', g, dr, tk', os⟩
  obtain ⟨oe, fv, hoe, hc, hd, hdat, h1⟩ := M.obj
  obtain ⟨G', g1, g2⟩ := restrict h' fun b => decide (b ≠ e)
  have gk : ∀ b, b ≠ e → G'.get? b = h'.get? b := fun b hb => g1 b (decide_eq_true hb)
  have ge : G'.get? e = none := g2 e (by simp)
  have old : ∀ b o, hp.get? b = some o → G'.get? b = some o := fun b o q => (gk b (Nat.ne_of_lt (Nat.lt_of_lt_of_le (Heap.lt_size q) M.new))).trans (M.keep b o q)
  have J : Inv X pins σ H ⟨G', g, dr, tk', os⟩ := I.kept (t' := tk') old
  refine ⟨e, oe, fv, ⟨G', g, dr, tk', os⟩, H, .ref C, none, rfl, J, fun b o q => ?_, ge, hoe, ⟨hc, hd⟩, hdat, h1, I.hok.fresh M.new, rfl, J.bare, raises_own T.c.exC T.c.tyC, h⟩
  by_cases hb : b = e
  · have q' : G'.get? b = some o := q
    rw [hb, ge] at q'; cases q'
  · exact (gk b hb).symm.trans q
end
end L2

/-! enumerate over a text. -/
namespace L2
open PySem PySem.Spec PyProof.Rows
/-- each sign of the text with its place, in new pairs -/
def Ites (x : Str) : It :=
  ⟨fun i _ => i < x.cps.size, fun i H v H' => ∃ T c, v = .ref T ∧ H T = none ∧ x.cps[i]? = some c ∧ H' = upd H T (.tup [.int (i : Nat), .str ⟨#[c]⟩]), fun i _ => i = x.cps.size⟩
theorem turn_enumS {P : Program} {w : World} {K : PySem.W.Frag} {elts : List Expr} {kk : Nat} {tpos : Pos} (x : Str) (t : Tok) (e it : Addr) :
    Turn P w K (.Tuple elts kk tpos) (Ites x) [e, it] e (fun i h => (∃ old, IsEnum h e it ((i : Nat) : Int) old) ∧ h.IsStrIter it (strIterType x) x t i ∧ e ≠ it) where
  mem := by simp
  obj := fun i h st b hb => by
    obtain ⟨⟨old, he⟩, ⟨o, ho, hc, hd⟩, _⟩ := st
    have e' : b = e ∨ b = it := by simpa using hb
    rcases e' with z | z
    · rw [z]; exact ⟨_, he, fun v q => nomatch q⟩
    · rw [z]; exact ⟨o, ho, fun v q => by rw [hd] at q; cases q⟩
  keep := fun i h h' st k => by
    obtain ⟨⟨old, he⟩, ⟨o, ho, r⟩, hne⟩ := st
    exact ⟨⟨old, k e (by simp) _ he⟩, ⟨o, k it (by simp) o ho, r⟩, hne⟩
  item := by
    intro X hP hw hK hc i pins s σ H E I hf st hg
    subst hP hw hK
    obtain ⟨⟨old, he⟩, hit, hne⟩ := st
    have hel : e < s.heap.objs.size := Heap.lt_size he
    have hil : it < s.heap.objs.size := by obtain ⟨_, q, _⟩ := hit; exact Heap.lt_size q
    have hh : X.A.in1.handled = none := I.ok.hd hc
    refine wpAny_pyNext_enum_itemD (Draws.text hh it x t) he hit hg hne (by simpa using hne) fun v h' tk hv ho hit' hT hsz hk => ?_
    obtain ⟨c, u, hcx, rfl⟩ := hv
    refine ⟨_, rfl, wpAny_letOwnedTupleGo_enum (s := { s with heap := h', toks := tk + 1 }) ho fun h'' he' sb => ?_⟩
    have hT2 : h''.get? s.heap.objs.size = some { cls := .type "tuple", data := .seq #[.int i tk, .str ⟨#[c]⟩ u] } := (sb.2 _ (Nat.ne_of_gt hel)).trans hT
    have new : ObjOk X.prog X.w (upd H s.heap.objs.size (.tup [.int (i : Nat), .str ⟨#[c]⟩])) h'' s.heap.objs.size (.tup [.int (i : Nat), .str ⟨#[c]⟩]) :=
      ⟨by show 2 ≤ sizeLine; decide, [.int i tk, .str ⟨#[c]⟩ u], .cons ⟨_, rfl⟩ (.cons ⟨_, rfl⟩ .nil), ⟨_, hT2, rfl, _, rfl⟩⟩
    have I1 : Inv X pins σ (upd H s.heap.objs.size (.tup [.int (i : Nat), .str ⟨#[c]⟩])) { s with heap := h'', toks := tk + 1 } :=
      I.turnedNew (ch := [e, it]) (fun b ob hb q => (sb.2 b (fun z => hb (by simp [z]))).trans (hk b ob (fun z => hb (by simp [z])) (fun z => hb (by simp [z])) q)) hf (Nat.le_refl _) new
    obtain ⟨oi, hoi, ri⟩ := hit'
    refine ⟨.ref s.heap.objs.size, _, I1, rfl, ⟨_, c, rfl, I.hok.fresh (Nat.le_refl _), hcx, rfl⟩, ⟨⟨.str ⟨#[c]⟩ u, ?_⟩, ⟨oi, (sb.2 it (Ne.symm hne)).trans hoi, ri⟩, hne⟩, fun b hb => ?_⟩
    · have e1 : ((i + 1 : Nat) : Int) = (i : Int) + 1 := by omega
      rw [e1]; exact he'
    · have hb' : b < s.heap.objs.size := by
        have e' : b = e ∨ b = it := by simpa using hb
        rcases e' with z | z
        · rw [z]; exact hel
        · rw [z]; exact hil
      rw [upd_ne (Nat.ne_of_lt hb')]
      exact (hf b hb).1
  done := by
    intro X hP hw hK hc i pins s σ H E I hf st hg
    subst hP hw hK
    obtain ⟨⟨old, he⟩, hit, hne⟩ := st
    have hg' : i = x.cps.size := hg
    subst hg'
    obtain ⟨f0, f1, f2, f3, f4, f5⟩ := hf it (by simp)
    have hh : X.A.in1.handled = none := I.ok.hd hc
    exact wpAny_pyNext_enum_endD (Draws.text hh it x t) he hit fun h' eb => ⟨rfl, I.turned (t' := s.toks) (fun b o hb q => eb b o hb q) f0 f1 f3 f4 f5⟩
  self := fun A i s Q E st h => let ⟨⟨_, he⟩, _⟩ := st; wpAny_pyIter_enum he h
def iEnumS (ta : TA) : TI := fun σ H R => ta σ H fun vs H1 => ∃ x, vs = [.str x] ∧ R (Ites x) H1
theorem pi_enumS {X : Cx} {e : Expr} {ta : TA} {p pos tpos : Pos} {elts : List Expr} {kk : Nat} (hg : Gl X "enumerate") (hm : X.mg "enumerate" = none) (ha : PA X [e] ta) (hs : starEach [e] X.env = [(false, eval e X.env)] := by rfl) :
    PI X (.Tuple elts kk tpos) (.Call (.Name "enumerate" p) [e] [] pos) (iEnumS ta) := by
  refine ⟨fun pins s σ H R I h => ?_⟩
  refine Call_ (ld_blt I hg hm boot_enumerate (PyProof.Rows.callWith_type1 (thn (ha.run pos pins s σ H _ I h) fun us s1 ⟨vs, H1, I1, r1, q1⟩ => ?_) hs rfl))
  obtain ⟨x, ex, q⟩ := q1
  subst ex
  cases r1 with
  | cons r rr =>
    cases rr
    obtain ⟨t, rfl⟩ := r
    refine call_enumerate_str fun h' he hit hsz hk => wpAny_pyIter_enum he ?_
    have I2 : Inv X pins σ H1 { s1 with heap := h' } := I1.kept (t' := s1.toks) hk
    refine ⟨s1.heap.objs.size + 1, [s1.heap.objs.size + 1, s1.heap.objs.size], _, _, H1, rfl, I2, turn_enumS x t (s1.heap.objs.size + 1) s1.heap.objs.size, ⟨⟨.none, he⟩, hit, Nat.succ_ne_self _⟩, fun b hb => ?_, q⟩
    have e' : b = s1.heap.objs.size + 1 ∨ b = s1.heap.objs.size := by simpa using hb
    have hle : s1.heap.objs.size ≤ b := by
      rcases e' with z | z
      · rw [z]; exact Nat.le_add_right _ _
      · rw [z]; exact Nat.le_refl _
    exact I1.fpOk hle (I1.hok.fresh hle)
end L2

/-! A try whose clauses may each have a name or none. An exception that has come to the frame is a package (Got); each way of a clause is a lemma over it. -/
namespace L2
open PySem PySem.Spec PyProof.Rows
abbrev TSu := Addr → Value → Option Addr → TS
/-- behind a clause with a name: its slot is empty again -/
def Ends.drop (D : Ends) (i : Nat) : Ends := { nx := fun σ H => D.nx (σ.set i none) H, rt := D.rt, bk := fun σ H => D.bk (σ.set i none) H, ct := fun σ H => D.ct (σ.set i none) H }
/-- one clause: the class it names, its slot, its suite -/
structure Clause where
  c : Value
  slot : Option Nat
  ts : TSu
def Clause.does (q : Clause) (cls : Value) (d : Option Addr) (D : Ends) (σ : St) (H : Hp) (a : Addr) : Prop :=
  match q.slot with
  | none => q.ts a cls d D σ H
  | some i => q.ts a cls d (D.drop i) (σ.set i (some (.ref a))) H
/-- what is wanted of an exception at these clauses -/
def wMix (K : PySem.W.Frag) (Wout : WX) (D : Ends) : List Clause → WX
  | [] => Wout
  | q :: r => fun cls d σ H => ∃ b, PySem.W.exmOne K cls q.c = some b ∧ (b = true → ∀ a, H a = none → q.does cls d D σ H a) ∧ (b = false → wMix K Wout D r cls d σ H)
/-- the suite of a clause keeps its reading, whatever exception is at hand -/
def SuiteOk (X : Cx) (suite : List Stmt) (ts : TSu) : Prop :=
  ∀ (a : Addr) (oe : Obj) (cls : Value) (d : Option Addr) (pn : List (Addr × Obj)), Zc cls d oe → (∃ vs, oe.data = .fields vs) → PSs (X.suite a ((a, oe) :: pn)) suite (ts a cls d)
inductive HdsMix (X : Cx) : List ExceptHandler → List Clause → Prop
  | nil : HdsMix X [] []
  | cons {x : Str} {c : Value} {ts : TSu} {b₀ : Stmt} {suite : List Stmt} {np p' : Pos} {hds : List ExceptHandler} {l : List Clause} (hc : Names X x c) (hsu : SuiteOk X (b₀ :: suite) ts) (r : HdsMix X hds l) :
      HdsMix X (.ExceptHandler (some (.Name x np)) none (b₀ :: suite) p' :: hds) (⟨c, none, ts⟩ :: l)
  | consA {x n : Str} {c : Value} {i : Nat} {ts : TSu} {b₀ : Stmt} {suite : List Stmt} {np p' : Pos} {hds : List ExceptHandler} {l : List Clause} (hi : X.N[i]? = some n) (hln : X.env.kindOf n = some .local) (hc : Names X x c) (hsu : SuiteOk X (b₀ :: suite) ts) (r : HdsMix X hds l) :
      HdsMix X (.ExceptHandler (some (.Name x np)) (some n) (b₀ :: suite) p' :: hds) (⟨c, some i, ts⟩ :: l)

/-- an exception at a has come to this frame, noted and with no flight: B the ground, sI the state without it -/
structure Got (X : Cx) (pins : List (Addr × Obj)) (σ : St) (H : Hp) (B : Heap) (sI s : Shared) (a : Addr) (cls : Value) (d : Option Addr) : Prop where
  inv : Inv X pins σ H sI
  nb : ∀ b o, sI.heap.get? b = some o → b ∉ frs X.stack → B.get? b = some o
  fl : HandSPX.FlyingZ B (X.env :: X.outer) a (Zc cls d) s.heap
  up : sI.heap.UpToSlots s.heap
  na : H a = none
  os : s.os = sI.os
  ag : AllBare s.gens
section
variable {X : Cx} {pins : List (Addr × Obj)} {σ : St} {H : Hp} {B : Heap} {sI s : Shared} {a : Addr} {cls : Value} {d : Option Addr}
theorem Got.here (g : Got X pins σ H B sI s a cls d) : Inv X pins σ H s := by
  obtain ⟨hh, gg, dd, tt, oo⟩ := s
  exact g.inv.landed g.nb g.fl.1 g.up g.os g.ag
/-- it is no frame of those that run -/
theorem Got.apart (g : Got X pins σ H B sI s a cls d) (hf : X.env.frame = some X.env.locals) : a ≠ X.env.locals ∧ a ∉ X.fs := by
  obtain ⟨oe, vs, he, _, hd⟩ := g.fl.there
  have no : a ∉ frs (X.env :: X.outer) := by
    intro hm
    obtain ⟨_, o', e', hnf⟩ := g.fl.2.2.1.mem hm
    rw [he] at e'
    cases e'
    exact hnf _ hd
  have eq : frs (X.env :: X.outer) = X.env.locals :: X.fs := by
    show List.filterMap _ _ = _
    rw [List.filterMap_cons, hf]
    rfl
  rw [eq] at no
  exact ⟨fun z => no (z ▸ List.mem_cons_self), fun z => no (List.mem_cons_of_mem _ z)⟩
/-- the state of a suite -/
theorem Got.suite (g : Got X pins σ H B sI s a cls d) (hf : X.env.frame = some X.env.locals) :
    ∃ oe, Zc cls d oe ∧ (∃ vs, oe.data = .fields vs) ∧ s.heap.get? a = some oe ∧ Inv (X.suite a ((a, oe) :: (X.pn ++ pins))) [] σ H s := by
  obtain ⟨oe, vs, he, hz, hd⟩ := g.fl.there
  exact ⟨oe, hz, ⟨vs, hd⟩, he, g.here.suite he hd g.na (g.apart hf).1 (g.apart hf).2⟩
/-- no clause took it -/
theorem Got.passes (g : Got X pins σ H B sI s a cls d) (hs : X.stack = X.env :: X.outer) (hf : X.env.frame = some X.env.locals) {W : WX} (tk : Takes X W) (hw : W cls d σ H) {Q : Flow → Shared → Prop} :
    wpAny (model X.prog X.w) X.A (handleBy (.ref a) X.env []) Q X.xe s := by
  refine wpAny_handleBy_nil ?_
  have on : wpAny (model X.prog X.w) X.A (setFlight (.ref a) X.env.frame) (fun _ s4 => wpAny (model X.prog X.w) X.A (throw (.ref a) : Sem Flow) Q X.xe s4) X.xe s := by
    rw [hf]
    refine HandSPX.setFlight_upZ g.fl fun h4 held up4 => wpAny_throw (tk _ _ ?_)
    refine ⟨a, B, sI, pins, σ, H, cls, d, rfl, g.inv, g.nb, g.up.trans up4, .inr (.inr ?_), g.na, g.os, g.ag, hw⟩
    rw [hs]
    exact held
  obtain ⟨_, _, _, oe, vs, T, _, _, he, _, hd, h1, _⟩ := g.fl
  unfold PySem.passOn
  refine wpAny_bind (wpAny_field he hd h1 ?_)
  rw [if_neg (by simp)]
  first
    | exact wpAny_bind (wpAny_pure (wpAny_bind on))
    | exact wpAny_bind on
/-- the clause's class is looked up and held against the exception's -/
theorem Got.asked (g : Got X pins σ H B sI s a cls d) (hf : X.env.frame = some X.env.locals) {x : Str} {c : Value} {np : Pos} {b : Bool} (hc : Names X x c) (hb : PySem.W.exmOne X.K cls c = some b) {Q : Bool → Shared → Prop} {E : Value → Shared → Prop} (hq : Q b s) :
    wpAny (model X.prog X.w) (X.A.mark (some (.ref a))) (eval (.Name x np) X.env) (fun v s1 => wpAny (model X.prog X.w) (X.A.mark (some (.ref a))) (excMatches (.ref a) v) Q E s1) E s := by
  obtain ⟨oe, hz, _, he, S⟩ := g.suite hf
  have L := PySem.W.exm_one (M := model X.prog X.w) g.here.kIn (fun A Q E s k q => wpAny_typeOf_ref (k _ _ he) (by rw [hz.1]; exact q)) hb
  obtain ⟨h1, h2, h3⟩ := hc
  rcases h3 with h3 | ⟨h3, h4, h5⟩
  · exact ld_glob (X := X.suite a ((a, oe) :: (X.pn ++ pins))) S h1 h3 (L.here hq) h2
  · exact ld_blt (X := X.suite a ((a, oe) :: (X.pn ++ pins))) S h1 h3 h4 (L.here hq) h5 h2
theorem Got.again (g : Got X pins σ H B sI s a cls d) {Q : Unit → Shared → Prop} {M : Model} {A : Around} {E : Value → Shared → Prop} (k : ∀ h', Got X pins σ H B sI { s with heap := h' } a cls d → Q () { s with heap := h' }) : wpAny M A (setFlight (.ref a) none) Q E s :=
  HandSPX.lands_againZ g.fl fun h4 fl4 up4 => k h4 ⟨g.inv, g.nb, fl4, g.up.trans up4, g.na, g.os, g.ag⟩
theorem SP.unsuite {pn : List (Addr × Obj)} {q : Addr × Obj} {D : Ends} {f : Flow} {s' : Shared} (ok : X.Ok) (h : SP (X.suite a (q :: (X.pn ++ pins))) pn D f s') : SP X pins D f s' := by
  cases f with
  | next => exact let ⟨σ', H', I, z⟩ := h; ⟨σ', H', I.unsuite ok, z⟩
  | brk => exact let ⟨σ', H', I, z⟩ := h; ⟨σ', H', I.unsuite ok, z⟩
  | cont => exact let ⟨σ', H', I, z⟩ := h; ⟨σ', H', I.unsuite ok, z⟩
  | ret u => exact let ⟨v, σ', H', I, r, z⟩ := h; ⟨v, σ', H', I.unsuite ok, r, z⟩
theorem SP.ofTry {pn : List (Addr × Obj)} {xe : Value → Shared → Prop} {D : Ends} {f : Flow} {s' : Shared} (ok : X.Ok) (h : SP (X.tr (X.pn ++ pins) xe) pn D f s') : SP X pins D f s' := by
  cases f with
  | next => exact let ⟨σ', H', I, z⟩ := h; ⟨σ', H', I.ofTry ok, z⟩
  | brk => exact let ⟨σ', H', I, z⟩ := h; ⟨σ', H', I.ofTry ok, z⟩
  | cont => exact let ⟨σ', H', I, z⟩ := h; ⟨σ', H', I.ofTry ok, z⟩
  | ret u => exact let ⟨v, σ', H', I, r, z⟩ := h; ⟨v, σ', H', I.ofTry ok, r, z⟩
/-- behind a suite with a name the name goes -/
theorem SP.unname {D : Ends} {i : Nat} {n : Str} {p' : Pos} {f : Flow} {s' : Shared} (hN : X.N.Nodup) (hi : X.N[i]? = some n) (hln : X.env.kindOf n = some .local) (h : SP X pins (D.drop i) f s') :
    wpAny (model X.prog X.w) X.A (do bindName X.env n .none; unbindBehindTheSuite X.env n p') (fun _ s7 => SP X pins D f s7) X.xe s' := by
  cases f with
  | next => exact let ⟨_, _, I, z⟩ := h; gone_ok I hN hi hln fun _ J => ⟨_, _, J, z⟩
  | brk => exact let ⟨_, _, I, z⟩ := h; gone_ok I hN hi hln fun _ J => ⟨_, _, J, z⟩
  | cont => exact let ⟨_, _, I, z⟩ := h; gone_ok I hN hi hln fun _ J => ⟨_, _, J, z⟩
  | ret u => exact let ⟨_, _, _, I, r, z⟩ := h; gone_ok I hN hi hln fun _ J => ⟨_, _, _, J, r, z⟩
/-- all clauses -/
theorem Got.clauses (hs : X.stack = X.env :: X.outer) (hf : X.env.frame = some X.env.locals) (hN : X.N.Nodup) {W : WX} (tk : Takes X W) {D : Ends} {hds : List ExceptHandler} {l : List Clause} (hk : HdsMix X hds l) :
    ∀ {s : Shared}, Got X pins σ H B sI s a cls d → wMix X.K W D l cls d σ H → wpAny (model X.prog X.w) X.A (handleBy (.ref a) X.env hds) (SP X pins D) X.xe s := by
  induction hk with
  | nil => exact fun g w => g.passes hs hf tk w
  | cons hc hsu _ ih =>
    intro s g w
    obtain ⟨b, hb, yes, no⟩ := w
    refine wpAny_handleBy_cons (codeAny_handlers_test (g.asked hf hc hb ?_)) (by intro q; cases q)
    cases b
    · exact ih g (no rfl)
    · refine codeAny_handlers_suite (g.again fun h4 g4 => ?_)
      obtain ⟨oe, hz, hd, he, S⟩ := g4.suite hf
      exact wpAny_mono ((hsu a oe cls d _ hz hd).run [] _ σ H D S (yes rfl a g.na)) (fun _ _ z => z.unsuite g.inv.ok) fun _ _ z => z.elim
  | consA hi hln hc hsu _ ih =>
    intro s g w
    obtain ⟨b, hb, yes, no⟩ := w
    refine wpAny_handleBy_cons (codeAny_handlers_test (g.asked hf hc hb ?_)) (by intro q; cases q)
    cases b
    · exact ih g (no rfl)
    · refine codeAny_handlers_suite_as (g.again fun h4 g4 => ?_)
      obtain ⟨oe, hz, hd, he, S⟩ := g4.suite hf
      refine store_ok (X := X.suite a ((a, oe) :: (X.pn ++ pins))) (v := .ref a) S hN hi (.inl hln) rfl (fun s5 S5 => ?_) (.inr hln)
      exact wpAny_mono ((hsu a oe cls d _ hz hd).run [] s5 _ H _ S5 (yes rfl a g.na)) (fun _ _ z => (z.unsuite g.inv.ok).unname hN hi hln) fun _ _ z => z.elim
/-- THE RULE -/
theorem ps_try_mix {body : List Stmt} {h₀ : ExceptHandler} {hds : List ExceptHandler} {l : List Clause} {pos : Pos} {tb : WX → TS} {Wout : WX} (hs : X.stack = X.env :: X.outer) (hf : X.env.frame = some X.env.locals) (hN : X.N.Nodup) (tk : Takes X Wout)
    (hb : ∀ (W : WX) (pn : List (Addr × Obj)) (xe : Value → Shared → Prop), Takes (X.tr pn xe) W → PassesOwn (model X.prog X.w) X.A X.env xe → PSs (X.tr pn xe) body (tb W)) (hh : HdsMix X (h₀ :: hds) l) :
    PS X (.Try body (h₀ :: hds) [] [] pos) (fun D σ H => tb (wMix X.K Wout D l) D σ H) := by
  constructor
  intro pins s σ H D I h
  refine wpAny_Try_except (wpAny_mono ((hb (wMix X.K Wout D l) (X.pn ++ pins) _ ?_ PassesOwn.looking).run [] s σ H D (I.toTry _) h) (fun f s1 z => ?_) fun _ _ z => z)
  · rintro u s' ⟨a, B, sI, pins', σ', H', cls, d, rfl, J', nb, up, sky, na, os, ag, w⟩
    have J : Inv X pins σ' H' sI := J'.ofTry I.ok
    have sky' : Sky B (X.env :: X.outer) a (Zc cls d) X.env.locals s'.heap := by
      rw [← hs]
      exact sky
    show wpAny (model X.prog X.w) X.A (noteFrame (.ref a) X.env) _ _ _
    refine Sky.land Zc.steady (by rw [I.ok.frames, hs]) hf sky' fun h3 fl3 up3 => ?_
    exact Got.clauses hs hf hN tk hh ⟨J, nb, fl3, up.trans up3, na, os, ag⟩ w
  · have z' := z.ofTry I.ok
    cases f with
    | next => exact wpAny_execs_nil z'
    | brk => exact z'
    | cont => exact z'
    | ret u => exact z'
end
end L2

/-! Calls of defs, methods and classes of the program; what they raise is wished for at the caller's slots. -/
namespace L2
open PySem PySem.Spec PyProof.Rows
section
variable {X : Cx} {CX : CXT} {k : Nat} {f C : Addr} {fd : FuncData} {ps : List Str} {sp : Sp} {dvs : List V} {ds : List Value} {E : St → XK} {x m : Str} {p pos apos : Pos} {e o : Expr} {es : List Expr} {ta : TE} {t : TA}
theorem pe_call0S (F : FnOk X.prog X.w X.K X.mg X.base CX k f fd ps sp) (hr : Room k X.A) (hg : Gl X x) (hm : X.mg x = some (.ref f)) (hk : PySem.W.keepIn X.K (.ref f) = true) (hb : Binds X.K fd ps ds) (hd : Vals dvs ds) (hx : ∀ σ, PassesAt CX X σ (E σ))
    (hdb : (x == ("__debug__" : Str)) = false := by decide) : PE X (.Call (.Name x p) [] [] pos) (tCallSD sp dvs E tNil) :=
  ⟨fun _ _ σ _ _ I h => wpAny_Call_Name_kw (ld_glob I hg hm (PySem.W.callWith_K0 I.kIn hk (run_fnSD (us := []) F hr hb hd (hx σ) I .nil h)) hdb)⟩
/-- o.m(..) -/
def tMethZ (C : Addr) (m : Str) (sp : Sp) (dvs : List V) (E : St → XK) (ta : TE) (t : TA) : TE := fun σ H Q => ta σ H fun y H1 => ∃ a dx fs, y = .ref a ∧ H1 a = some (.ins C dx fs) ∧ fs.lookup m = none ∧
  t σ H1 fun vs H2 => sp (y :: (vs ++ dvs)) H2 Q (E σ)
/-- C(..) -/
def tMakeS (C : Addr) (sp : Sp) (dvs : List V) (E : St → XK) (t : TA) : TE := fun σ H Q => t σ H fun vs H1 => ∀ y dx, H1 y = none → H1 dx = none → dx ≠ y →
  sp (.ref y :: (vs ++ dvs)) (upd (upd H1 dx (.own y)) y (.ins C dx [])) (fun v H2 => v = .non ∧ Q (.ref y) H2) (E σ)
theorem pe_methZ {pl : Sem Bool} (he : PE X o ta) (c : Cls X.K C) (hm : Meth X.K C m f) (F : FnOk X.prog X.w X.K X.mg X.base CX k f fd ps sp) (hr : Room k X.A) (hb : Binds X.K fd ps ds) (hd : Vals dvs ds) (hx : ∀ σ, PassesAt CX X σ (E σ)) (ha : PA X (e :: es) t)
    (hst : starEach (e :: es) X.env = (false, eval e X.env) :: starEach es X.env := by rfl) (hpl : (backTo pos (starEach es X.env)).any (·.1) = false := by rfl)
    (ht : eval (.Call (.Attribute o m apos) (e :: es) [] pos) X.env = (eval o X.env >>= fun ov => standAt apos.atName >>= fun _ => holding [ov] (getMethod ov m pl) >>= fun ff => callWith pos ff.1 ff.2 (backTo pos (starEach (e :: es) X.env)) (backToKw pos (keywordEach [] X.env))) := by rfl) :
    PE X (.Call (.Attribute o m apos) (e :: es) [] pos) (tMethZ C m sp dvs E ta t) := by
  constructor
  intro pins s σ H Q I h
  refine PySem.W.methodCall_KW (pl := pl) (thn (he.run pins s σ H _ I h) ?_) ht
  rintro u s1 ⟨y, H1, I1, ry, a, dx, fs, rfl, ea, l, q⟩
  cases ry
  refine getmeth_ok I1 ea c hm l (PySem.W.callWith_K (first := [.ref a]) (h₀ := X.base) I.ok.mod.kin hm.kp (thn (ha.run pos pins s1 σ H1 _ I1 q) ?_) hst hpl)
  rintro us s2 ⟨vs, H2, I2, r, q2⟩
  exact ⟨I2.kIn, run_fnSD (us := .ref a :: us) (vs := .ref a :: vs) F hr hb hd (hx σ) I2 (.cons rfl r) q2⟩
theorem pe_meth0Z {pl : Sem Bool} (he : PE X o ta) (c : Cls X.K C) (hm : Meth X.K C m f) (F : FnOk X.prog X.w X.K X.mg X.base CX k f fd ps sp) (hr : Room k X.A) (hb : Binds X.K fd ps ds) (hd : Vals dvs ds) (hx : ∀ σ, PassesAt CX X σ (E σ))
    (ht : eval (.Call (.Attribute o m apos) [] [] pos) X.env = (eval o X.env >>= fun ov => standAt apos.atName >>= fun _ => holding [ov] (getMethod ov m pl) >>= fun ff => callWith pos ff.1 ff.2 (backTo pos (starEach [] X.env)) (backToKw pos (keywordEach [] X.env))) := by rfl) :
    PE X (.Call (.Attribute o m apos) [] [] pos) (tMethZ C m sp dvs E ta tNil) := by
  constructor
  intro pins s σ H Q I h
  refine PySem.W.methodCall_KW (pl := pl) (thn (he.run pins s σ H _ I h) ?_) ht
  rintro u s1 ⟨y, H1, I1, ry, a, dx, fs, rfl, ea, l, q⟩
  cases ry
  exact getmeth_ok I1 ea c hm l (PySem.W.callWith_K0 (first := [.ref a]) I1.kIn hm.kp (run_fnSD (us := [.ref a]) (vs := [.ref a]) F hr hb hd (hx σ) I1 (.cons rfl .nil) q))
theorem run_makeS {pins : List (Addr × Obj)} {σ : St} {H : Hp} {s : Shared} {Q : VK} {us : List Value} {vs : List V} (M : Mk X.K C f) (F : FnOk X.prog X.w X.K X.mg X.base CX k f fd ps sp) (hr : Room (k + 1) X.A) (hb : Binds X.K fd ps ds) (hd : Vals dvs ds)
    (hx : PassesAt CX X σ (E σ)) (I : Inv X pins σ H s) (r : Vals vs us)
    (h : ∀ y dx, H y = none → H dx = none → dx ≠ y → sp (.ref y :: (vs ++ dvs)) (upd (upd H dx (.own y)) y (.ins C dx [])) (fun v H2 => v = .non ∧ Q (.ref y) H2) (E σ)) :
    wpAny (model X.prog X.w) X.A (call (.ref C) us) (EP X pins σ Q) X.xe s := by
  have I2 := Inv.made (C := C) I
  have q := h (s.heap.objs.size + 1) s.heap.objs.size (I.hok.fresh (Nat.le_succ _)) (I.hok.fresh (Nat.le_refl _)) (Nat.ne_of_lt (Nat.lt_succ_self _))
  have rr : Vals (V.ref (s.heap.objs.size + 1) :: (vs ++ dvs)) (Value.ref (s.heap.objs.size + 1) :: us ++ ds) := .cons rfl (r.append hd)
  have hl : (Value.ref (s.heap.objs.size + 1) :: us ++ ds).length = ps.length := rr.length.symm.trans (F.len _ _ _ _ q)
  have run := F.run _ X.stack _ _ ⟨Value.ref (s.heap.objs.size + 1) :: us, []⟩ _ _ _ (E σ) (hr.make C us []) (I2.env0.make C us []) (hb _ (Value.ref (s.heap.objs.size + 1) :: us) I2.kIn hl) rr q
  refine wpAny_call (make_map (f := f) I.kIn M.makes M.init (beq_iff_eq.mp M.fn) (codeAny_mono run ?_))
  intro res s' hq
  match res, hq with
  | .error e, hq => exact hx pins _ _ e s' I2 hq
  | .ok (.ret u), hq =>
    obtain ⟨v, H', I3, rv, ev, q3⟩ := I2.after hq
    subst ev
    exact ⟨rv, V.ref (s.heap.objs.size + 1), H', I3, rfl, q3⟩
  | .ok .next, hq => exact hq.elim
  | .ok .brk, hq => exact hq.elim
  | .ok .cont, hq => exact hq.elim
theorem pe_makeS (M : Mk X.K C f) (F : FnOk X.prog X.w X.K X.mg X.base CX k f fd ps sp) (hr : Room (k + 1) X.A) (hg : Gl X x) (hm : X.mg x = some (.ref C)) (hb : Binds X.K fd ps ds) (hd : Vals dvs ds) (hx : ∀ σ, PassesAt CX X σ (E σ))
    (ha : PA X (e :: es) t) (hdb : (x == ("__debug__" : Str)) = false := by decide) (he : starEach (e :: es) X.env = (false, eval e X.env) :: starEach es X.env := by rfl) (hpl : (backTo pos (starEach es X.env)).any (·.1) = false := by rfl) :
    PE X (.Call (.Name x p) (e :: es) [] pos) (tMakeS C sp dvs E t) := by
  constructor
  intro pins s σ H Q I h
  refine wpAny_Call_Name_kw (ld_glob I hg hm (PySem.W.callWith_K (h₀ := X.base) I.ok.mod.kin M.kp (thn (ha.run pos pins s σ H _ I h) ?_) he hpl) hdb)
  rintro us s1 ⟨vs, H1, I1, r, q⟩
  exact ⟨I1.kIn, run_makeS M F hr hb hd (hx σ) I1 r q⟩
theorem pe_make0S (M : Mk X.K C f) (F : FnOk X.prog X.w X.K X.mg X.base CX k f fd ps sp) (hr : Room (k + 1) X.A) (hg : Gl X x) (hm : X.mg x = some (.ref C)) (hb : Binds X.K fd ps ds) (hd : Vals dvs ds) (hx : ∀ σ, PassesAt CX X σ (E σ))
    (hdb : (x == ("__debug__" : Str)) = false := by decide) : PE X (.Call (.Name x p) [] [] pos) (tMakeS C sp dvs E tNil) :=
  ⟨fun _ _ σ _ _ I h => wpAny_Call_Name_kw (ld_glob I hg hm (PySem.W.callWith_K0 I.kIn M.kp (run_makeS (us := []) M F hr hb hd (hx σ) I .nil h)) hdb)⟩
end
end L2

/-! Operators and built-ins by values, whatever the kinds of the operands; how a reading goes on is a lemma each. -/
namespace L2
open PySem PySem.Spec PyProof.Rows
abbrev Frg := PySem.W.Frag
/-! ### + -/
def rAddS : R2 := fun x y H Q => ∃ i j, x = .str i ∧ y = .str j ∧ i.length + j.length ≤ sizeLine ∧ Q (.str (i ++ j)) H
def rAddA : R2 := fun x y H Q => rI0 (fun i j => .int (i + j)) x y H Q ∨ rAddS x y H Q ∨ rCat x y H Q
theorem op_addA {X : Cx} : OpR X (binaryOp .Add) rAddA := op_add.or (OpR.or op_add_str op_cat)
theorem addA_int {i j : Int} {H : Hp} {Q : VK} (h : Q (.int (i + j)) H) : rAddA (.int i) (.int j) H Q := .inl ⟨_, _, rfl, rfl, h⟩
theorem addA_str {i j : Str} {H : Hp} {Q : VK} (hz : i.length + j.length ≤ sizeLine) (h : Q (.str (i ++ j)) H) : rAddA (.str i) (.str j) H Q := .inr (.inl ⟨_, _, rfl, rfl, hz, h⟩)
theorem addA_lst {a b : Addr} {xs ys : List V} {H : Hp} {Q : VK} (ha : H a = some (.lst xs)) (hb : H b = some (.lst ys)) (hz : xs.length + ys.length ≤ sizeLine) (h : ∀ p, H p = none → Q (.ref p) (upd H p (.lst (xs ++ ys)))) :
    rAddA (.ref a) (.ref b) H Q := .inr (.inr ⟨_, _, _, _, rfl, rfl, ha, hb, hz, h⟩)
/-! ### - // % ** -/
abbrev rSubA : R2 := rI0 fun i j => .int (i - j)
abbrev rDivA : R2 := rI CDivW fun i j => .int (i / j)
abbrev rModA : R2 := rI (fun _ j => 0 < j) fun i j => .int (i % j)
abbrev rPowA : R2 := rI CPow fun i j => .int (i ^ j.toNat)
theorem op_subA {X : Cx} : OpR X (binaryOp .Sub) rSubA := op_sub
theorem op_divA {X : Cx} : OpR X (binaryOp .FloorDiv) rDivA := op_fdivW
theorem op_modA {X : Cx} : OpR X (binaryOp .Mod) rModA := op_mod
theorem op_powA {X : Cx} : OpR X (binaryOp .Pow) rPowA := op_pow
/-! ### * -/
def repS (z : Str) (k : Nat) : Str := ⟨((List.replicate k z.cps.toList).flatten).toArray⟩
theorem fold_rep (z : Array Nat) : ∀ (n : Nat) (acc : Array Nat), (List.replicate n z).foldl (· ++ ·) acc = acc ++ ((List.replicate n z.toList).flatten).toArray
  | 0, acc => by simp
  | n + 1, acc => by
    rw [List.replicate_succ, List.foldl_cons, fold_rep z n, List.replicate_succ, List.flatten_cons]
    apply Array.ext'
    simp
theorem repS_length (z : Str) (k : Nat) : (repS z k).length = k * z.length := by
  show ((List.replicate k z.cps.toList).flatten).toArray.size = k * z.cps.size
  simp
def rRepS : R2 := fun x y H Q => ∃ z k, x = .str z ∧ y = .int k ∧ 0 ≤ k ∧ k ≤ 4096 ∧ z.length ≤ 4096 ∧ Q (.str (repS z k.toNat)) H
theorem op_repS {X : Cx} : OpR X (binaryOp .Mult) rRepS := by
  intro pins s σ H x y v u Q I rx ry h
  obtain ⟨z, k, rfl, rfl, h1, h2, h3, q⟩ := h
  obtain ⟨t, rfl⟩ := rx
  obtain ⟨t', rfl⟩ := ry
  have hs : sizeLine = 16777216 := sizeLine_eq
  by_cases k0 : k = 0
  · subst k0
    refine P.mul_str_none (by omega) (by omega) ?_
    have e0 : repS z (0 : Int).toNat = Str.empty := by show (⟨#[]⟩ : Str) = Str.empty; decide +kernel
    exact ⟨.str (repS z (0 : Int).toNat), H, I.tok _, ⟨_, by rw [e0]⟩, q⟩
  have hlen : z.length * k.toNat ≤ 16777216 := Nat.le_trans (Nat.mul_le_mul h3 (by omega : k.toNat ≤ 4096)) (by decide)
  refine P.mul_str (by rw [decide_eq_false (by omega), decide_eq_false (by omega)]; rfl) (fun _ _ => ?_) (fun _ _ => ?_) ?_
  · have hk : 0 < k := by omega
    have hd : (4096 : Int) ≤ (2 ^ 63 - 1) / k := by
      rw [Int.le_ediv_iff_mul_le hk]
      have : (4096 : Int) * k ≤ 4096 * 4096 := by omega
      omega
    omega
  · unfold PySem.Builtin.Str.tooLong
    rw [hs]
    exact decide_eq_false (by omega)
  · rw [if_neg (by omega)]
    by_cases hc : (k == 1 || z.length == 0) = true
    · rw [if_pos hc]
      have e : repS z k.toNat = z := by
        rcases Bool.or_eq_true_iff.mp hc with c | c
        · have : k = 1 := by simpa using c
          subst this
          unfold repS
          simp
        · have c0 : z.length = 0 := by simpa using c
          have hz : z.cps = #[] := Array.eq_empty_of_size_eq_zero c0
          obtain ⟨zc⟩ := z
          simp only at hz
          subst hz
          unfold repS
          simp
      rw [e] at q
      exact ⟨.str z, H, I, ⟨t, rfl⟩, q⟩
    · rw [if_neg hc]
      have e : (⟨(List.replicate k.toNat z.cps).foldl (· ++ ·) #[]⟩ : Str) = repS z k.toNat := by
        unfold repS
        rw [fold_rep]
        simp
      refine ⟨?_, ?_⟩
      · rw [e, repS_length, hs]
        rw [Nat.mul_comm]
        exact hlen
      · rw [e]
        exact ⟨.str (repS z k.toNat), H, I.tok _, ⟨_, rfl⟩, q⟩
def rMulA : R2 := fun x y H Q => rI CMul (fun i j => .int (i * j)) x y H Q ∨ rRep x y H Q ∨ rRepS x y H Q
theorem op_mulA {X : Cx} : OpR X (binaryOp .Mult) rMulA := op_mul.or (OpR.or op_rep op_repS)
theorem mulA_int {i j : Int} {H : Hp} {Q : VK} (hc : CMul i j) (h : Q (.int (i * j)) H) : rMulA (.int i) (.int j) H Q := .inl ⟨_, _, rfl, rfl, hc, h⟩
theorem mulA_str {z : Str} {k : Int} {H : Hp} {Q : VK} (h1 : 0 ≤ k) (h2 : k ≤ 4096) (h3 : z.length ≤ 4096) (h : Q (.str (repS z k.toNat)) H) : rMulA (.str z) (.int k) H Q := .inr (.inr ⟨_, _, rfl, rfl, h1, h2, h3, h⟩)
/-! ### == and != -/
def rEqA (K : Frg) : R2 := fun x y H Q => rEq x y H Q ∨ rEqD K x y H Q
def rNeA (K : Frg) : R2 := fun x y H Q => rNe x y H Q ∨ rNeD K x y H Q
theorem op_eqA {X : Cx} {k : Nat} (hr : Room k X.A) : OpR X (compareOp .Eq) (rEqA X.K) := op_eq.or (op_eqD hr.units)
theorem op_neA {X : Cx} {k : Nat} (hr : Room k X.A) : OpR X (compareOp .NotEq) (rNeA X.K) := op_ne.or (op_neD hr.units)
theorem decI (i j : Int) : decide (V.int i = V.int j) = decide (i = j) := by rw [dec_int, Bool.beq_eq_decide_eq]
theorem decS (i j : Str) : decide (V.str i = V.str j) = decide (i = j) := by rw [dec_str, Bool.beq_eq_decide_eq]
theorem eqA_int {K : Frg} {i j : Int} {H : Hp} {Q : VK} (h : Q (.bl (decide (i = j))) H) : rEqA K (.int i) (.int j) H Q := .inl ⟨rfl, by rw [decI]; exact h⟩
theorem eqA_str {K : Frg} {i j : Str} {H : Hp} {Q : VK} (h : Q (.bl (decide (i = j))) H) : rEqA K (.str i) (.str j) H Q := .inl ⟨rfl, by rw [decS]; exact h⟩
theorem neA_int {K : Frg} {i j : Int} {H : Hp} {Q : VK} (h : Q (.bl (!decide (i = j))) H) : rNeA K (.int i) (.int j) H Q := .inl ⟨rfl, by rw [decI]; exact h⟩
theorem neA_str {K : Frg} {i j : Str} {H : Hp} {Q : VK} (h : Q (.bl (!decide (i = j))) H) : rNeA K (.str i) (.str j) H Q := .inl ⟨rfl, by rw [decS]; exact h⟩
theorem eqA_data {K : Frg} {x y : V} {d e : PyData} {b : Bool} {H : Hp} {Q : VK} (hd : Dp K H x d) (he : Dp K H y e) (sd : SeqAt.shaped d = true) (se : SeqAt.shaped e = true) (hb : PyData.eqv d e = b) (h : Q (.bl b) H) : rEqA K x y H Q :=
  .inr ⟨d, e, hd, he, sd, se, by rw [hb]; exact h⟩
theorem neA_data {K : Frg} {x y : V} {d e : PyData} {b : Bool} {H : Hp} {Q : VK} (hd : Dp K H x d) (he : Dp K H y e) (sd : SeqAt.shaped d = true) (se : SeqAt.shaped e = true) (hb : PyData.eqv d e = b) (h : Q (.bl (!b)) H) : rNeA K x y H Q :=
  .inr ⟨d, e, hd, he, sd, se, by rw [hb]; exact h⟩
/-! ### < <= > >= -/
def rLtS : R2 := fun x y H Q => ∃ i j, x = .str i ∧ y = .str j ∧ Q (.bl (decide (i.cps.toList < j.cps.toList))) H
def rLtA : R2 := fun x y H Q => rI0 (fun i j => .bl (decide (i < j))) x y H Q ∨ rLtS x y H Q
theorem op_ltA {X : Cx} : OpR X (compareOp .Lt) rLtA := op_lt.or op_lt_str
abbrev rLeA : R2 := rI0 fun i j => .bl (decide (i ≤ j))
abbrev rGtA : R2 := rI0 fun i j => .bl (decide (j < i))
abbrev rGeA : R2 := rI0 fun i j => .bl (decide (j ≤ i))
theorem op_leA {X : Cx} : OpR X (compareOp .LtE) rLeA := op_le
theorem op_gtA {X : Cx} : OpR X (compareOp .Gt) rGtA := op_gt
theorem op_geA {X : Cx} : OpR X (compareOp .GtE) rGeA := op_ge
theorem ltA_int {i j : Int} {H : Hp} {Q : VK} (h : Q (.bl (decide (i < j))) H) : rLtA (.int i) (.int j) H Q := .inl ⟨_, _, rfl, rfl, h⟩
theorem i0_go {g : Int → Int → V} {i j : Int} {H : Hp} {Q : VK} (h : Q (g i j) H) : rI0 g (.int i) (.int j) H Q := ⟨_, _, rfl, rfl, h⟩
theorem i_go {C : Int → Int → Prop} {g : Int → Int → V} {i j : Int} {H : Hp} {Q : VK} (hc : C i j) (h : Q (g i j) H) : rI C g (.int i) (.int j) H Q := ⟨_, _, rfl, rfl, hc, h⟩
/-! ### in, not in -/
def rInS : R2 := fun x y H Q => ∃ (c : Nat) (z : Str), x = .str ⟨#[c]⟩ ∧ y = .str z ∧ Q (.bl (decide (c ∈ z.cps.toList))) H
def rNotInS : R2 := fun x y H Q => ∃ (c : Nat) (z : Str), x = .str ⟨#[c]⟩ ∧ y = .str z ∧ Q (.bl (!decide (c ∈ z.cps.toList))) H
def rInT : R2 := fun x y H Q => ∃ i j, x = .str i ∧ y = .str j ∧ Q (.bl (!(Builtin.Str.occurrences j i 0 j.length 1).isEmpty)) H
def rInA (K : Frg) : R2 := fun x y H Q => rInS x y H Q ∨ rIn K false x y H Q ∨ rInT x y H Q
def rNotInA (K : Frg) : R2 := fun x y H Q => rNotInS x y H Q ∨ rIn K true x y H Q
theorem op_inA {X : Cx} : OpR X (compareOp .In) (rInA X.K) := op_in_sign.or (OpR.or op_in_seq op_in_str)
theorem op_notInA {X : Cx} : OpR X (compareOp .NotIn) (rNotInA X.K) := op_notIn_sign.or op_notIn_seq
theorem inA_sign {K : Frg} {c : Nat} {z : Str} {H : Hp} {Q : VK} (h : Q (.bl (decide (c ∈ z.cps.toList))) H) : rInA K (.str ⟨#[c]⟩) (.str z) H Q := .inl ⟨c, z, rfl, rfl, h⟩
theorem notInA_sign {K : Frg} {c : Nat} {z : Str} {H : Hp} {Q : VK} (h : Q (.bl (!decide (c ∈ z.cps.toList))) H) : rNotInA K (.str ⟨#[c]⟩) (.str z) H Q := .inl ⟨c, z, rfl, rfl, h⟩
theorem inA_seq {K : Frg} {x : V} {p : Addr} {xs : List V} {H : Hp} {Q : VK} (hp : SqL K H p xs ∨ SqT K H p xs) (hx : flatV x = true) (ha : xs.all flatV = true) (h : Q (.bl (inV x xs)) H) : rInA K x (.ref p) H Q := .inr (.inl ⟨p, xs, rfl, hp, hx, ha, h⟩)
/-! ### is None -/
def rIsN' : R2 := fun x y H Q => y = .non ∧ Q (.bl (decide (x = .non))) H
def rNotN' : R2 := fun x y H Q => y = .non ∧ Q (.bl (!decide (x = .non))) H
theorem op_isA {X : Cx} : OpR X (compareOp .Is) rIsN' := op_isN
theorem op_isNotA {X : Cx} : OpR X (compareOp .IsNot) rNotN' := op_notN
/-! ### subscripts -/
abbrev rIxA := rIx
theorem ixA_lst {K : Frg} {p : Addr} {xs : List V} {i : Int} {v : V} {H : Hp} {Q : VK} (hp : SqL K H p xs) (hi : atI xs i = some v) (h : Q v H) : rIx K (.ref p) (.int i) H Q := .inl ⟨p, xs, i, v, rfl, rfl, hp, hi, h⟩
theorem ixA_tup {K : Frg} {p : Addr} {xs : List V} {i : Int} {v : V} {H : Hp} {Q : VK} (hp : SqT K H p xs) (hi : atI xs i = some v) (h : Q v H) : rIx K (.ref p) (.int i) H Q := .inr (.inl ⟨p, xs, i, v, rfl, rfl, hp, hi, h⟩)
theorem ixA_str {K : Frg} {z : Str} {i : Int} {c : Nat} {H : Hp} {Q : VK} (hz : z.length ≤ sizeLine) (hi : atI z.cps.toList i = some c) (h : Q (.str ⟨#[c]⟩) H) : rIx K (.str z) (.int i) H Q := .inr (.inr ⟨z, i, c, rfl, rfl, hz, hi, h⟩)
abbrev SlV := V → Option Int → Option Int → Hp → VK → Prop
def rSlA (K : Frg) : SlV := fun x lo hi H Q => rSlS x lo hi H Q ∨ rSlL K x lo hi H Q
theorem sl_A {X : Cx} : SlR X (rSlA X.K) := sl_str.or sl_list
theorem slA_str {K : Frg} {z : Str} {lo hi : Option Int} {H : Hp} {Q : VK} (hz : z.length ≤ sizeLine) (h : Q (.str (cutS z lo hi)) H) : rSlA K (.str z) lo hi H Q := .inl ⟨z, rfl, hz, h⟩
theorem slA_lst {K : Frg} {a : Addr} {xs : List V} {lo hi : Option Int} {H : Hp} {Q : VK} (ha : SqL K H a xs) (h : ∀ p, H p = none → Q (.ref p) (upd H p (.lst (cutV xs lo hi)))) : rSlA K (.ref a) lo hi H Q := .inr ⟨a, xs, rfl, ha, h⟩
/-! ### built-ins by their names -/
abbrev RC := List V → Hp → VK → Prop
def rLenA (K : Frg) : RC := fun xs H Q => ∃ x n, xs = [x] ∧ LenV K x H n ∧ Q (.int n) H
theorem c_len {X : Cx} : CallR X (.builtin "len") (rLenA X.K) := call_len
theorem lenA_str {K : Frg} {z : Str} {H : Hp} {Q : VK} (hz : z.length ≤ sizeLine) (h : Q (.int z.length) H) : rLenA K [.str z] H Q := ⟨_, _, rfl, ⟨hz, rfl⟩, h⟩
theorem lenA_lst {K : Frg} {a : Addr} {xs : List V} {H : Hp} {Q : VK} (ha : SqL K H a xs) (h : Q (.int xs.length) H) : rLenA K [.ref a] H Q := ⟨_, _, rfl, .inl ⟨_, ha, rfl⟩, h⟩
theorem lenA_tup {K : Frg} {a : Addr} {xs : List V} {H : Hp} {Q : VK} (ha : SqT K H a xs) (h : Q (.int xs.length) H) : rLenA K [.ref a] H Q := ⟨_, _, rfl, .inr ⟨_, ha, rfl⟩, h⟩
def rAbsA : RC := fun xs H Q => ∃ i, xs = [.int i] ∧ Q (.int (if i < 0 then -i else i)) H
theorem c_abs {X : Cx} : CallR X (.builtin "abs") rAbsA := call_abs
def rIntA : RC := fun xs H Q => (∃ i, xs = [.int i] ∧ Q (.int i) H) ∨ ∃ k, xs = [.bl k] ∧ Q (.int (if k then 1 else 0)) H
theorem c_int {X : Cx} : CallR X (.type "int") rIntA := call_int1
theorem intA_int {i : Int} {H : Hp} {Q : VK} (h : Q (.int i) H) : rIntA [.int i] H Q := .inl ⟨i, rfl, h⟩
def rListA (K : Frg) : RC := fun xs H Q => ∃ p ys, xs = [.ref p] ∧ (SqL K H p ys ∨ SqT K H p ys) ∧ ∀ l, H l = none → Q (.ref l) (upd H l (.lst ys))
theorem c_list {X : Cx} : CallR X (.type "list") (rListA X.K) := call_list_of
def rJoinA (K : Frg) : V → List V → Hp → VK → Prop := fun x xs H Q => ∃ a p, ∃ ys : List Str, x = .str a ∧ xs = [.ref p] ∧ (SqL K H p (ys.map V.str) ∨ SqT K H p (ys.map V.str)) ∧ (ys.map (·.length)).sum + ys.length * a.length ≤ 16777216 ∧ Q (.str (Txt.join a ys)) H
theorem pe_joinA {X : Cx} {o e : Expr} {to te : TE} {apos pos : Pos} (ho : PE X o to) (he : PE X e te) (h1 : starEach [e] X.env = [(false, eval e X.env)] := by rfl) (h2 : attributeBase o "join" X.env (eval o X.env) = eval o X.env := by rfl) (h3 : (apos.endLine == pos.line) = true := by rfl) :
    PE X (.Call (.Attribute o "join" apos) [e] [] pos) (tM1 (rJoinA X.K) to te) := pe_join ho he h1 h2 h3
def rIsiA (K : Frg) : RC := rIsi K
theorem c_isi {X : Cx} : CallR X (.builtin "isinstance") (rIsiA X.K) := call_isi
theorem isi_go {K : Frg} {x c : V} {t u : Value} {b : Bool} {H : Hp} {Q : VK} (hc : ClsV c u) (ht : TyX K H x t) (hk : PySem.W.kitOne K t u = some b) (h : Q (.bl b) H) : rIsiA K [x, c] H Q := ⟨x, c, t, u, b, rfl, hc, ht, hk, h⟩
/-! ### constants of the module -/
theorem pe_gint {X : Cx} {x : Str} {i : Int} {pos : Pos} (hg : Gl X x) (hm : ∃ t, X.mg x = some (.int i t)) (hd : (x == ("__debug__" : Str)) = false := by decide) : PE X (.Name x pos) (tC (.int i)) :=
  let ⟨t, h⟩ := hm; pe_glob hg h ⟨t, rfl⟩ hd
theorem pe_gstr {X : Cx} {x z : Str} {pos : Pos} (hg : Gl X x) (hm : ∃ t, X.mg x = some (.str z t)) (hd : (x == ("__debug__" : Str)) = false := by decide) : PE X (.Name x pos) (tC (.str z)) :=
  let ⟨t, h⟩ := hm; pe_glob hg h ⟨t, rfl⟩ hd
/-- what a def wishes of exceptions -/
def W0 (E : XK) : WX := fun cls d _ H => E cls d H
def WN : WX := fun _ _ _ _ => False
end L2

/-! Built-ins and operators over instances of the program's own classes. -/
namespace L2
open PySem PySem.Spec PyProof.Rows
section
variable {X : Cx} {CX : CXT} {k : Nat} {f C a dx : Addr} {fs : List (Str × V)} {fd : FuncData} {ps : List Str} {sp : Sp} {dvs : List V} {ds : List Value} {pins : List (Addr × Obj)} {σ : St} {H : Hp} {s : Shared}
/-- a def of the text runs within a built-in -/
theorem run_in {A' : Around} {Q : VK} {E : XK} {us : List Value} {vs : List V} (F : FnOk X.prog X.w X.K X.mg X.base CX k f fd ps sp) (hr : Room k A') (hfr : A'.frames = X.A.frames) (hb : Binds X.K fd ps ds) (hd : Vals dvs ds)
    (hx : PassesAt CX X σ E) (I : Inv X pins σ H s) (r : Vals vs us) (h : sp (vs ++ dvs) H Q E) : wpAny (model X.prog X.w) A' (call (.ref f) us) (EP X pins σ Q) X.xe s := by
  have e0 := I.env0
  have e1 : Env0 X.prog X.w X.K X.mg X.base A' X.stack s H := ⟨hfr.trans e0.frames, e0.mod, e0.bs, e0.bsz, e0.funs, e0.frf, e0.hok, e0.bare⟩
  have rr : Vals (vs ++ dvs) (us ++ ds) := r.append hd
  refine wpAny_call (codeAny_mono (F.run A' X.stack s H ⟨us, []⟩ _ _ Q E hr e1 (hb s us I.kIn (rr.length.symm.trans (F.len _ _ _ _ h))) rr h) ?_)
  intro res s' hq
  match res, hq with
  | .error e, hq => exact hx pins H s e s' I hq
  | .ok (.ret u), hq => exact I.after hq
  | .ok .next, hq => exact hq.elim
  | .ok .brk, hq => exact hq.elim
  | .ok .cont, hq => exact hq.elim
/-- an instance as the library's rules see it -/
theorem Inv.instAt (I : Inv X pins σ H s) (ea : H a = some (.ins C dx fs)) : ∃ od, PySem.W.InstAt s.heap a (PySem.W.instObj C dx) C (some od) := by
  obtain ⟨mA, O, _⟩ := ins_get I.hok ea
  obtain ⟨od, J, _⟩ := O.look
  exact ⟨od, J⟩
/-- str(o), o's class with a __str__ of the program -/
def rStrO (C : Addr) (sp : Sp) (E : St → XK) (σ : St) : List V → Hp → VK → Prop := fun xs H Q => ∃ a dx fs, xs = [.ref a] ∧ H a = some (.ins C dx fs) ∧ sp [.ref a] H (fun v H' => ∃ z, v = .str z ∧ Q (.str z) H') (E σ)
def tStrO (C : Addr) (sp : Sp) (E : St → XK) (t : TA) : TE := fun σ H Q => t σ H fun vs H1 => rStrO C sp E σ vs H1 Q
theorem pe_strO {E : St → XK} {p pos : Pos} {e : Expr} {es : List Expr} {t : TA} (m : Meth X.K C "__str__" f) (F : FnOk X.prog X.w X.K X.mg X.base CX k f fd ps sp) (hr : Room (k + 2) X.A) (hb : Binds X.K fd ps []) (hx : ∀ σ, PassesAt CX X σ (E σ))
    (hg : Gl X "str") (hm : X.mg "str" = none) (ha : PA X (e :: es) t)
    (he : starEach (e :: es) X.env = (false, eval e X.env) :: starEach es X.env := by rfl) (hpl : (backTo pos (starEach es X.env)).any (·.1) = false := by rfl) : PE X (.Call (.Name "str" p) (e :: es) [] pos) (tStrO C sp E t) := by
  constructor
  intro pins s σ H Q I h
  refine wpAny_Call_Name_kw (ld_blt I hg hm (by decide +kernel : bootBuiltins "str" = some (.type "str")) ?_ (by decide) (by decide))
  refine PyProof.Rows.callWith_type1 (thn (ha.run pos pins s σ H _ I h) ?_) he hpl
  rintro us s1 ⟨vs, H1, I1, r1, a, dx, fs, rfl, ea, q⟩
  cases r1 with
  | cons ra rn =>
    cases rn
    cases ra
    obtain ⟨od, J⟩ := I1.instAt ea
    refine PySem.W.kso_call (hr.in1.in1.units0) I1.kIn J m.at_ m.fn (thn (run_in (vs := [.ref a]) (dvs := []) (ds := []) F hr.in1.in1 rfl hb .nil (hx σ) I1 (.cons rfl .nil) (by simpa using q)) ?_)
    rintro v s2 ⟨x, H2, I2, rx, z, rfl, q2⟩
    obtain ⟨t, rfl⟩ := rx
    exact ⟨.str z, H2, I2, ⟨t, rfl⟩, q2⟩
end
end L2

/-! What the head tells of the written part: a Bool of facts, and the function objects by their places. -/
namespace Rz
open PySem PySem.Spec PyProof.Rows L2 He
abbrev Fg := PySem.W.Frag
/-! ### looking into K -/
def funOf (K : Fg) (f : Addr) : Option FuncData := match K.lookup f with
  | some o => (match o.data with
    | .func fd => some fd
    | _ => none)
  | none => none
theorem funOf_ok {K : Fg} {f : Addr} {fd : FuncData} (h : funOf K f = some fd) : ∃ oc od osl, K.lookup f = some ⟨oc, od, .func fd, osl⟩ := by
  unfold funOf at h
  cases q : K.lookup f with
  | none => rw [q] at h; cases h
  | some o =>
    obtain ⟨oc, od, dt, osl⟩ := o
    rw [q] at h
    cases dt with
    | func fd' =>
      have e : fd' = fd := Option.some.inj h
      subst e
      exact ⟨oc, od, osl, rfl⟩
    | _ => cases h
theorem funOf_eq {K : Fg} {f : Addr} {fd : FuncData} {oc od osl} (h : K.lookup f = some ⟨oc, od, .func fd, osl⟩) : funOf K f = some fd := by
  unfold funOf
  rw [h]
def fldsOf (K : Fg) (a : Addr) : Option (Array Value) := match K.lookup a with
  | some o => (match o.data with
    | .fields vs => some vs
    | _ => none)
  | none => none
theorem fldsOf_ok {K : Fg} {a : Addr} {vs : Array Value} (h : fldsOf K a = some vs) : ∃ oc od osl, K.lookup a = some ⟨oc, od, .fields vs, osl⟩ := by
  unfold fldsOf at h
  cases q : K.lookup a with
  | none => rw [q] at h; cases h
  | some o =>
    obtain ⟨oc, od, dt, osl⟩ := o
    rw [q] at h
    cases dt with
    | fields v =>
      have e : v = vs := Option.some.inj h
      subst e
      exact ⟨oc, od, osl, rfl⟩
    | _ => cases h
def cellOf (K : Fg) (a : Addr) : Option (Option Value) := match K.lookup a with
  | some o => (match o.data with
    | .cell v => some v
    | _ => none)
  | none => none
theorem cellOf_ok {K : Fg} {a : Addr} {v : Option Value} (h : cellOf K a = some v) : ∃ oc od osl, K.lookup a = some ⟨oc, od, .cell v, osl⟩ := by
  unfold cellOf at h
  cases q : K.lookup a with
  | none => rw [q] at h; cases h
  | some o =>
    obtain ⟨oc, od, dt, osl⟩ := o
    rw [q] at h
    cases dt with
    | cell u =>
      have e : u = v := Option.some.inj h
      subst e
      exact ⟨oc, od, osl, rfl⟩
    | _ => cases h
def strOf? : Value → Option Str
  | .str x _ => some x
  | _ => none
theorem strOf?_ok {v : Value} {x : Str} (h : strOf? v = some x) : ∃ t, v = .str x t := by
  cases v with
  | str y t =>
    have e : y = x := Option.some.inj h
    exact ⟨t, by rw [e]⟩
  | _ => cases h
def refOf? : Value → Option Addr
  | .ref a => some a
  | _ => none
theorem refOf?_ok {v : Value} {a : Addr} (h : refOf? v = some a) : v = .ref a := by
  cases v with
  | ref b => exact congrArg Value.ref (Option.some.inj h)
  | _ => cases h
def clsOf (K : Fg) (a : Addr) : Option (ClassData × Array (Option Value)) := match K.lookup a with
  | some o => (match o.data with
    | .cls cd => (match decide (o.cls = .type "type") with
      | true => some (cd, o.slots)
      | false => none)
    | _ => none)
  | none => none
theorem clsOf_ok {K : Fg} {a : Addr} {cd : ClassData} {sl : Array (Option Value)} (h : clsOf K a = some (cd, sl)) : ∃ od, K.lookup a = some ⟨.type "type", od, .cls cd, sl⟩ := by
  unfold clsOf at h
  cases q : K.lookup a with
  | none => rw [q] at h; cases h
  | some o =>
    obtain ⟨oc, od, dt, osl⟩ := o
    rw [q] at h
    cases dt with
    | cls c =>
      cases e : decide (oc = Value.type "type") with
      | false =>
        simp only [e] at h
        cases h
      | true =>
        simp only [e] at h
        have e1 := Option.some.inj h
        have e2 : c = cd := congrArg Prod.fst e1
        have e3 : osl = sl := congrArg Prod.snd e1
        have e4 : oc = .type "type" := of_decide_eq_true e
        subst e2 e3 e4
        exact ⟨od, rfl⟩
    | _ => cases h
/-! ### where a function stands -/
def pG (x : Str) : Fg → Addr := fun K => ga K x
def pM (C m : Str) : Fg → Addr := fun K => ma K (ga K C) m
/-- the record that a class has at a name (a property's, a classmethod's) -/
def recAt (C m : Str) : Fg → Addr := fun K => ma K (ga K C) m
def firstOf (n : String) (p : Addr) (K : Fg) : Addr := match PySem.W.recIn K p n with
  | some (.ref g :: _) => g
  | _ => 0
def pP (C m : Str) : Fg → Addr := fun K => firstOf "property" (recAt C m K) K
def pC (C m : Str) : Fg → Addr := fun K => firstOf "classmethod" (recAt C m K) K
/-! ### a function's datum -/
structure Dq where
  at_ : Fg → Addr
  name : Str
  qual : Str
  params : Arguments
  body : List Stmt
  scope : Scope
  clo : List Str := []
  dfl : List Dv := []
  kwd : List (Str × Dv) := []
abbrev FnQ : Type := Option (Str × Str × Arguments × FuncBody × Scope × Addr × List Str × Addr)
def fnQ (K : Fg) (f : Addr) : FnQ := (funOf K f).map fun fd => (fd.name, fd.qualname, fd.params, fd.body, fd.scope, fd.globals, fd.closure.map (·.1), fd.builtins)
def Dq.val (d : Dq) : FnQ := some (d.name, d.qual, d.params, .stmts d.body, d.scope, mainGlobals, d.clo, builtinsNs)
def Dq.dvs (K : Fg) (d : Dq) : List V := d.dfl.map (Dv.v K)
def Dq.kws (K : Fg) (d : Dq) : List (Str × V) := d.kwd.map fun q => (q.1, q.2.v K)
def Dq.ok (K : Fg) (d : Dq) : Bool := PySem.W.keepIn K (.ref (d.at_ K)) && (match funOf K (d.at_ K) with
  | some fd => PySem.W.codeIn K fd.code d.qual && (dflB K fd.defaults (d.dvs K) && kwdB K fd.kwdefaults (d.kws K))
  | none => false)
theorem Dq.parts {K : Fg} {d : Dq} (e : fnQ K (d.at_ K) = d.val) (c : d.ok K = true) : ∃ oc od osl cl dV kV doc pm an cdv ct, K.lookup (d.at_ K) = some ⟨oc, od, .func (PySem.W.fnX d.name d.qual d.params d.body d.scope cl dV kV doc pm an cdv ct), osl⟩ ∧ cl.map (·.1) = d.clo ∧
    PySem.W.keepIn K (.ref (d.at_ K)) = true ∧ PySem.W.codeIn K cdv d.qual = true ∧ DflV K dV (d.dvs K) ∧ KwdV K kV (d.kws K) := by
  unfold Dq.ok at c
  unfold fnQ at e
  obtain ⟨kp, c2⟩ := ba c
  cases q : funOf K (d.at_ K) with
  | none => rw [q] at c2; cases c2
  | some fd =>
    rw [q] at c2 e
    obtain ⟨oc, od, osl, lk⟩ := funOf_ok q
    obtain ⟨n1, n2, n3, n4, n5, n6, n7, n8, n9, n10, n11, n12, n13, n14, n15⟩ := fd
    simp only [Dq.val, Option.map_some, Option.some.injEq, Prod.mk.injEq] at e
    obtain ⟨h1, h2, h3, h4, h5, h6, h7, h8⟩ := e
    subst h1 h2 h3 h4 h5 h6 h8
    obtain ⟨k1, k2⟩ := ba c2
    obtain ⟨k3, k4⟩ := ba k2
    exact ⟨oc, od, osl, n7, n8, n9, n10, n11, n12, n13, n14, lk, h7, kp, k1, dflB_ok k3, kwdB_ok k4⟩
theorem Dq.funD {K : Fg} {d : Dq} (e : fnQ K (d.at_ K) = d.val) (c : d.ok K = true) (hc : d.clo = []) : ∃ fd, FunD K d.name d.qual d.params d.body d.scope (d.dvs K) (d.kws K) (d.at_ K) fd := by
  obtain ⟨oc, od, osl, cl, dV, kV, doc, pm, an, cdv, ct, h1, h2, h3, h4, h5, h6⟩ := Dq.parts e c
  rw [hc] at h2
  have : cl = [] := List.map_eq_nil_iff.mp h2
  subst this
  exact ⟨_, ⟨oc, od, dV, kV, doc, pm, an, cdv, ct, osl, rfl, h1, h4, h5, h6⟩, h3⟩
/-! ### facts of classes -/
def gloB (x : Str) : Fg → Bool := fun K => (Fa.glo x).ok K
def firstB (n : String) (p : Addr) (K : Fg) : Bool := decide ((PySem.W.recIn K p n).bind List.head? = some (.ref (firstOf n p K)))
theorem firstB_ok {n : String} {p : Addr} {K : Fg} (h : firstB n p K = true) : ∃ rest, PySem.W.recIn K p n = some (.ref (firstOf n p K) :: rest) := by
  have e := of_decide_eq_true h
  cases q : PySem.W.recIn K p n with
  | none => rw [q] at e; cases e
  | some l =>
    rw [q] at e
    cases l with
    | nil => cases e
    | cons v r =>
      have ev : v = .ref (firstOf n p K) := Option.some.inj e
      exact ⟨r, by rw [ev]⟩
def propB (C m : Str) : Fg → Bool := fun K => eqO (PySem.W.findIn K (.ref (ga K C)) m) (some (some (.ref (recAt C m K)))) && (eqO (PySem.W.specialIn K (.ref (recAt C m K)) "__get__") (some (some (.builtin "property.__get__"))) &&
  (decide (PySem.W.takesIn K (.ref (recAt C m K)) = some true) && firstB "property" (recAt C m K) K))
theorem propB_ok {C m : Str} {K : Fg} (h : propB C m K = true) : PropOf K (ga K C) m (recAt C m K) (pP C m K) := by
  obtain ⟨h1, h⟩ := ba h
  obtain ⟨h2, h⟩ := ba h
  obtain ⟨h3, h4⟩ := ba h
  exact ⟨eqO_ok h1, eqO_ok h2, of_decide_eq_true h3, firstB_ok h4⟩
/-- an exception class of the program -/
def mroVE (C : Addr) (l : List Value) : Bool := decide (l.head? = some (.ref C)) && PySem.HandSPX.refsVE l.tail
def slotsVE (sl : Array (Option Value)) : Bool := decide (sl.size = 6) && decide (sl[4]? = some (some (.builtin "ValueError.__new__")))
def clsVE (K : Fg) (C : Addr) : Bool := match clsOf K C with
  | some (cd, sl) => mroVE C cd.mro && (cd.hasDict && (!cd.hasDel && slotsVE sl))
  | none => false
theorem clsVE_ok {K : Fg} {C : Addr} (h : clsVE K C = true) : ∃ nm q N bs bm sn sub ab col dd k0 k1 k2 k3 k5, K.lookup C = some (excClassObj nm q C N bs bm true sn sub ab col dd k0 k1 k2 k3 k5 "ValueError.__new__") ∧ PySem.HandSPX.refsVE bm = true := by
  unfold clsVE at h
  cases q : clsOf K C with
  | none => rw [q] at h; cases h
  | some r =>
    obtain ⟨cd, sl⟩ := r
    rw [q] at h
    obtain ⟨od, lk⟩ := clsOf_ok q
    obtain ⟨nm, bs, mro, N, qn, hd, sn, sub, ab, col, del⟩ := cd
    obtain ⟨h2, h⟩ := ba (show (mroVE C mro && (hd && (!del && slotsVE sl))) = true from h)
    obtain ⟨h3, h⟩ := ba h
    obtain ⟨h4, h5⟩ := ba h
    have e4 : del = false := by simpa using h4
    subst h3 e4
    obtain ⟨h6, h7⟩ := ba h2
    obtain ⟨h8, h9⟩ := ba h5
    cases mro with
    | nil => cases of_decide_eq_true h6
    | cons v bm =>
      have ev : v = .ref C := Option.some.inj (of_decide_eq_true h6)
      subst ev
      obtain ⟨l⟩ := sl
      have z : l.length = 6 := of_decide_eq_true h8
      have z4 : l[4]? = some (some (.builtin "ValueError.__new__")) := by simpa using of_decide_eq_true h9
      obtain ⟨k0, l, rfl⟩ := List.exists_cons_of_length_eq_add_one z
      obtain ⟨k1, l, rfl⟩ := List.exists_cons_of_length_eq_add_one (Nat.succ.inj z)
      obtain ⟨k2, l, rfl⟩ := List.exists_cons_of_length_eq_add_one (Nat.succ.inj (Nat.succ.inj z))
      obtain ⟨k3, l, rfl⟩ := List.exists_cons_of_length_eq_add_one (Nat.succ.inj (Nat.succ.inj (Nat.succ.inj z)))
      obtain ⟨k4, l, rfl⟩ := List.exists_cons_of_length_eq_add_one (Nat.succ.inj (Nat.succ.inj (Nat.succ.inj (Nat.succ.inj z))))
      obtain ⟨k5, l, rfl⟩ := List.exists_cons_of_length_eq_add_one (Nat.succ.inj (Nat.succ.inj (Nat.succ.inj (Nat.succ.inj (Nat.succ.inj z)))))
      have e0 : l = [] := List.eq_nil_of_length_eq_zero (Nat.succ.inj (Nat.succ.inj (Nat.succ.inj (Nat.succ.inj (Nat.succ.inj (Nat.succ.inj z))))))
      have e4 : k4 = some (.builtin "ValueError.__new__") := by simpa using z4
      subst e0 e4
      exact ⟨nm, qn, N, bs, bm, sn, sub, ab, col, od, k0, k1, k2, k3, k5, lk, h7⟩
def excB (x : Str) : Fg → Bool := fun K => clsVE K (ga K x) && (eqO (PySem.W.findIn K (.ref (ga K x)) "__setattr__") (some (some (.builtin "object.__setattr__"))) && (PySem.W.keepIn K (.ref (ga K x)) && (decide (PySem.W.subIn K (.ref (ga K x)) (.type "BaseException") = some true) &&
  (decide (PySem.W.subIn K (.ref (ga K x)) (.type "ValueError") = some true) && (decide (PySem.W.typeIn K (.ref (ga K x)) = some (.type "type")) && (eqO (PySem.W.nsIn K cStatics "thirdparty.any") (some none) && xfB K (ga K x)))))))
theorem excB_ok {x : Str} {K : Fg} (h : excB x K = true) : ExC K (ga K x) ∧ XfC K (ga K x) := by
  obtain ⟨h1, h⟩ := ba h
  obtain ⟨h2, h⟩ := ba h
  obtain ⟨h3, h⟩ := ba h
  obtain ⟨h4, h⟩ := ba h
  obtain ⟨h5, h⟩ := ba h
  obtain ⟨h6, h⟩ := ba h
  obtain ⟨h7, h8⟩ := ba h
  exact ⟨⟨clsVE_ok h1, eqO_ok h2, h3, of_decide_eq_true h4, of_decide_eq_true h5, of_decide_eq_true h6, eqO_ok h7⟩, xfB_ok h8⟩
/-- its __init__: the cell of __class__, the code object -/
def ccOf (f : Addr) (K : Fg) : Addr := match funOf K f with
  | some fd => (match fd.closure.head? with
    | some q => q.2
    | none => 0)
  | none => 0
def cdOf (f : Addr) (K : Fg) : Addr := match funOf K f with
  | some fd => (refOf? fd.code).getD 0
  | none => 0
def fileB (P : Program) (c : Addr) (K : Fg) : Bool := match (fldsOf K c).bind fun vs => vs[2]?.bind strOf? with
  | some file => (P.main.file : Str) == file
  | none => false
theorem fileB_ok {P : Program} {c : Addr} {K : Fg} (h : fileB P c K = true) : ∃ (ccl : Value) (cdd : Option Addr) (vs : Array Value) (ccs : Array (Option Value)) (file : Str) (tf : Tok),
    K.lookup c = some ⟨ccl, cdd, .fields vs, ccs⟩ ∧ vs[2]? = some (.str file tf) ∧ ((P.main.file : Str) == file) = true := by
  unfold fileB at h
  cases q : fldsOf K c with
  | none => rw [q] at h; cases h
  | some vs =>
    rw [q] at h
    obtain ⟨oc, od, osl, lk⟩ := fldsOf_ok q
    cases q2 : vs[2]? with
    | none =>
      simp only [Option.bind_some, q2, Option.bind_none] at h
      cases h
    | some v =>
      simp only [Option.bind_some, q2] at h
      cases q3 : strOf? v with
      | none => rw [q3] at h; cases h
      | some file =>
        rw [q3] at h
        obtain ⟨t, rfl⟩ := strOf?_ok q3
        exact ⟨oc, od, vs, osl, file, t, lk, q2, h⟩
def iniB (P : Program) (x : Str) : Fg → Bool := fun K => eqO (PySem.W.findIn K (.ref (ga K x)) "__init__") (some (some (.ref (pM x "__init__" K)))) && (decide (PySem.W.typeIn K (.ref (pM x "__init__" K)) = some (.type "function")) &&
  (fileB P (cdOf (pM x "__init__" K) K) K && (decide (cellOf K (ccOf (pM x "__init__" K) K) = some (some (.ref (ga K x)))) && eqO (PySem.W.ks_superIn K (ga K x) (ga K x) "__init__") (some (some (.builtin "ValueError.__init__"))))))
theorem iniB_ok {P : Program} {x : Str} {K : Fg} {d : Dq} (h : iniB P x K = true) (ht : (P.main.scope.names.lookup ("super" : Str)).isSome = false) (hd : d.at_ = pM x "__init__") (e : fnQ K (d.at_ K) = d.val) (c : d.ok K = true) (hc : d.clo = [("__class__" : Str)]) (hdf : d.dfl = []) :
    ExF P K (ga K x) (pM x "__init__" K) (ccOf (pM x "__init__" K) K) (cdOf (pM x "__init__" K) K) d.params d.body d.scope := by
  obtain ⟨h1, h⟩ := ba h
  obtain ⟨h2, h⟩ := ba h
  obtain ⟨h3, h⟩ := ba h
  obtain ⟨h4, h5⟩ := ba h
  obtain ⟨oc, od, osl, cl, dV, kV, doc, pm, an, cdv, ct, g1, g2, g3, g4, g5, g6⟩ := Dq.parts e c
  rw [hc] at g2
  rw [hd] at g1
  obtain ⟨cc, rfl⟩ : ∃ cc, cl = [(("__class__" : Str), cc)] := by
    cases cl with
    | nil => cases g2
    | cons p r =>
      obtain ⟨n, cc⟩ := p
      cases r with
      | nil =>
        have : n = "__class__" := by simpa using g2
        exact ⟨cc, by rw [this]⟩
      | cons _ _ => simp at g2
  have hdv : dV = .none := by
    rcases g5 with ⟨_, z⟩ | ⟨z, _⟩
    · exact z
    · exact absurd (by unfold Dq.dvs; rw [hdf]; rfl) z
  subst hdv
  obtain ⟨cda, rfl⟩ : ∃ cda, cdv = .ref cda := by
    cases cdv with
    | ref a => exact ⟨a, rfl⟩
    | _ => cases g4
  have ecc : ccOf (pM x "__init__" K) K = cc := by
    unfold ccOf
    rw [funOf_eq g1]
    rfl
  have ecd : cdOf (pM x "__init__" K) K = cda := by
    unfold cdOf
    rw [funOf_eq g1]
    rfl
  rw [ecc, ecd]
  rw [ecc] at h4
  rw [ecd] at h3
  refine ⟨eqO_ok h1, of_decide_eq_true h2, ⟨oc, od, d.name, d.qual, kV, doc, pm, ct, an, osl, g1, g4⟩, fileB_ok h3, ?_, eqO_ok h5, ht⟩
  obtain ⟨a, b, c', q⟩ := cellOf_ok (of_decide_eq_true h4)
  exact ⟨a, b, c', q⟩
/-! ### the Hook -/
def growR (g : Addr → Option Obj) (as : List Addr) : List Addr := growD g as
def asR (g : Addr → Option Obj) : Nat → List Addr
  | 0 => [mainGlobals, cStatics]
  | n + 1 => growR g (asR g n)
abbrev AlR : Type := Bool × List FnQ
def obsR (fa : List (Fg → Bool)) (fn : List Dq) (K : Fg) : AlR := ((fa.all fun f => f K) && fn.all fun d => d.ok K, fn.map fun d => fnQ K (d.at_ K))
def valR (fn : List Dq) : AlR := (true, fn.map Dq.val)
def SaysR (fa : List (Fg → Bool)) (fn : List Dq) (K : Fg) : Prop := obsR fa fn K = valR fn
def obsRG (n : Nat) (fa : List (Fg → Bool)) (fn : List Dq) (g : Addr → Option Obj) : AlR := obsR fa fn (frG g (asR g n))
def hookR (n : Nat) (fa : List (Fg → Bool)) (fn : List Dq) : PySem.W.Hook where
  α := AlR
  obs := fun s => obsRG n fa fn s.heap.get?
  val := fun _ => valR fn
  says := fun _ h => ∃ K : Fg, K.In h ∧ SaysR fa fn K
  of := fun _ _ e => ⟨_, frG_in, e⟩
  keeps := fun _ _ _ ⟨K, hK, c⟩ k => ⟨K, PySem.W.Frag.In.keeps hK k, c⟩
theorem obsRG_eq {n : Nat} {fa : List (Fg → Bool)} {fn : List Dq} {g : Addr → Option Obj} {s : Shared} (h : ∀ a, g a = s.heap.get? a) : obsRG n fa fn g = (hookR n fa fn).obs s := by
  have e : g = s.heap.get? := funext h
  rw [e] <;> rfl
section
variable {fa : List (Fg → Bool)} {fn : List Dq} {K : Fg}
theorem SaysR.fact (c : SaysR fa fn K) (i : Nat) {f : Fg → Bool} (h : fa[i]? = some f := by rfl) : f K = true := by
  have c1 := (ba (show ((fa.all fun f => f K) && fn.all fun d => d.ok K) = true from congrArg Prod.fst c)).1
  exact List.all_eq_true.mp c1 f (List.mem_of_getElem? h)
theorem SaysR.def_ (c : SaysR fa fn K) (i : Nat) {d : Dq} (h : fn[i]? = some d := by rfl) : fnQ K (d.at_ K) = d.val ∧ d.ok K = true := by
  have c2 := (ba (show ((fa.all fun f => f K) && fn.all fun d => d.ok K) = true from congrArg Prod.fst c)).2
  have e : fn.map (fun d => fnQ K (d.at_ K)) = fn.map Dq.val := congrArg Prod.snd c
  have e2 : (fn.map fun d => fnQ K (d.at_ K))[i]? = (fn.map Dq.val)[i]? := by rw [e]
  rw [List.getElem?_map, List.getElem?_map, h] at e2
  exact ⟨Option.some.inj e2, List.all_eq_true.mp c2 d (List.mem_of_getElem? h)⟩
theorem SaysR.fun_ (c : SaysR fa fn K) (i : Nat) {d : Dq} (h : fn[i]? = some d := by rfl) (hc : d.clo = [] := by rfl) : ∃ fd, FunD K d.name d.qual d.params d.body d.scope (d.dvs K) (d.kws K) (d.at_ K) fd :=
  let ⟨e, k⟩ := c.def_ i h; Dq.funD e k hc
end
end Rz

/-! Names for readings. -/
namespace L2
open PySem PySem.Spec PyProof.Rows
def tRaise (mk : St → Hp → XK → Prop) (W : WX) : TS := fun _ σ H => mk σ H fun cls d H' => W cls d σ H'
def tTry (K : Frg) (W : WX) (tb : WX → TS) (l : List Clause) : TS := fun D σ H => tb (wMix K W D l) D σ H
theorem ps_tryM {X : Cx} {body : List Stmt} {h₀ : ExceptHandler} {hds : List ExceptHandler} {l : List Clause} {pos : Pos} {tb : WX → TS} {Wout : WX} (hs : X.stack = X.env :: X.outer) (hf : X.env.frame = some X.env.locals) (hN : X.N.Nodup) (tk : Takes X Wout)
    (hb : ∀ (W : WX) (pn : List (Addr × Obj)) (xe : Value → Shared → Prop), Takes (X.tr pn xe) W → PassesOwn (model X.prog X.w) X.A X.env xe → PSs (X.tr pn xe) body (tb W)) (hh : HdsMix X (h₀ :: hds) l) :
    PS X (.Try body (h₀ :: hds) [] [] pos) (tTry X.K Wout tb l) := ps_try_mix hs hf hN tk hb hh
def tJoined (ts : List TE) : TE := fun σ H Q => tJs ts Str.empty σ H fun out H1 => Q (.str out) H1
def tTruth (K : Frg) (ta : TE) : TT := fun σ H Q => ta σ H fun x H' => ∃ k, TruV K x H' k ∧ Q k H'
abbrev rNegA : V → Hp → VK → Prop := rU fun i => .int (-i)
end L2

/-! How a reading goes on, one lemma a construct. -/
namespace L2
open PySem PySem.Spec PyProof.Rows
section
variable {K : Frg} {σ : St} {H : Hp} {Q : VK} {D : Ends} {ta tb tc : TE} {t u : TS} {tt tt' : TT} {g : TG} {i : Nat} {v : V} {tl tr : TA} {W : WX} {E : XK} {B : Bool → Hp → Prop} {QL : List V → Hp → Prop}
theorem rd_seq (h : t { D with nx := u D } σ H) : tSeq t u D σ H := h
theorem rd_next (h : D.nx σ H) : tNext D σ H := h
theorem rd_asg (h : ta σ H fun x H1 => g x σ H1 D.nx) : tAsg ta g D σ H := h
theorem rd_name {R : St → Hp → Prop} (h : R (σ.set i (some v)) H) : gName i v σ H R := h
theorem rd_drop (h : ta σ H fun _ H1 => D.nx σ H1) : tDrop ta D σ H := h
theorem rd_ret (h : ta σ H D.rt) : tRet ta D σ H := h
theorem rd_retN (h : D.rt .non H) : tRetN D σ H := h
theorem rd_if (h : tt σ H fun b H1 => (b = true → t D σ H1) ∧ (b = false → u D σ H1)) (hm : ∀ {P P' : Bool → Hp → Prop}, (∀ b H, P b H → P' b H) → tt σ H P → tt σ H P') : tIfS tt t u D σ H :=
  hm (fun b H1 ⟨h1, h2⟩ => by cases b; exact h2 rfl; exact h1 rfl) h
theorem rd_ifS (h : tt σ H fun b H1 => if b = true then t D σ H1 else u D σ H1) : tIfS tt t u D σ H := h
theorem rd_var (e : σ[i]? = some (some v)) (h : Q v H) : tVar i σ H Q := ⟨v, e, h⟩
theorem rd_c (h : Q v H) : tC v σ H Q := h
theorem rd_op {r : R2} (h : ta σ H fun x H1 => tb σ H1 fun y H2 => r x y H2 Q) : tOp r ta tb σ H Q := h
theorem rd_un {r : V → Hp → VK → Prop} (h : ta σ H fun x H1 => r x H1 Q) : tUn r ta σ H Q := h
theorem rd_neg {j : Int} (h : Q (.int (-j)) H) : rNegA (.int j) H Q := ⟨j, rfl, h⟩
theorem rd_cb {r : RC} (h : tl σ H fun vs H1 => r vs H1 Q) : tCB r tl σ H Q := h
theorem rd_nil (h : QL [] H) : tNil σ H QL := h
theorem rd_cons (h : ta σ H fun x H1 => tr σ H1 fun xs H2 => QL (x :: xs) H2) : tCons ta tr σ H QL := h
theorem rd_test (h : ta σ H fun x H1 => ∃ k, x = .bl k ∧ B k H1) : tTest ta σ H B := h
theorem rd_tb (h : ta σ H fun x H1 => ∃ k, x = .bl k ∧ B k H1) : tB ta σ H B := h
theorem rd_bl {k : Bool} (h : B k H) : ∃ k', V.bl k = .bl k' ∧ B k' H := ⟨k, rfl, h⟩
theorem rd_and (h : tt σ H fun c H1 => if c = true then tt' σ H1 B else B false H1) : tAnd tt tt' σ H B := h
theorem rd_or (h : tt σ H fun c H1 => if c = true then B true H1 else tt' σ H1 B) : tOr tt tt' σ H B := h
theorem rd_not (h : tt σ H fun c H1 => B (!c) H1) : tNot tt σ H B := h
theorem rd_andV (h : ta σ H fun x H1 => ∃ c, x = .bl c ∧ if c = true then tb σ H1 Q else Q (.bl false) H1) : tAndV ta tb σ H Q := h
theorem rd_orV (h : ta σ H fun x H1 => ∃ c, x = .bl c ∧ if c = true then Q (.bl true) H1 else tb σ H1 Q) : tOrV ta tb σ H Q := h
theorem rd_notV (h : ta σ H fun x H1 => ∃ c, x = .bl c ∧ Q (.bl (!c)) H1) : tNotV ta σ H Q := h
theorem rd_ifE (h : tt σ H fun c H1 => if c = true then ta σ H1 Q else tb σ H1 Q) : tIf tt ta tb σ H Q := h
theorem rd_tup (h : tl σ H fun xs H1 => xs.length ≤ sizeLine ∧ ∀ p, H1 p = none → Q (.ref p) (upd H1 p (.tup xs))) : tTup tl σ H Q := h
theorem rd_lst (h : tl σ H fun xs H1 => xs.length ≤ sizeLine ∧ ∀ p, H1 p = none → Q (.ref p) (upd H1 p (.lst xs))) : tLst tl σ H Q := h
theorem rd_call {sp : Sp} {dvs : List V} {EE : St → XK} (h : tl σ H fun vs H1 => sp (vs ++ dvs) H1 Q (EE σ)) : tCallSD sp dvs EE tl σ H Q := h
theorem rd_joined {ts : List TE} (h : tJs ts Str.empty σ H fun out H1 => Q (.str out) H1) : tJoined ts σ H Q := h
theorem rd_raise {mk : St → Hp → XK → Prop} (h : mk σ H fun cls d H' => W cls d σ H') : tRaise mk W D σ H := h
theorem rd_mkx {C : Addr} {f : Str} {R : XK} (h : tl σ H fun vs H1 => ∃ v, vs = [v] ∧ ∀ d, H1 d = none → R (.ref C) (some d) (upd H1 d (.xd [(f, v)]))) : tMkX C f tl σ H R := h
theorem rd_mkx0 {C : Addr} {R : XK} (h : R (.ref C) none H) : tMkX0 C σ H R := h
theorem rd_try {tbb : WX → TS} {l : List Clause} (h : tbb (wMix K W D l) D σ H) : tTry K W tbb l D σ H := h
theorem rd_sl {r : SlV} {tlo thi : TO} (h : ta σ H fun x H1 => tlo σ H1 fun l H2 => thi σ H2 fun u H3 => r x l u H3 Q) : tSl r ta tlo thi σ H Q := h
theorem rd_nopart {R : Option Int → Hp → Prop} (h : R none H) : tNoPart σ H R := h
theorem rd_part {R : Option Int → Hp → Prop} (h : ta σ H fun x H1 => ∃ i, x = .int i ∧ R (some i) H1) : tPart ta σ H R := h
theorem rd_ofint {j : Int} {R : Option Int → Hp → Prop} (h : R (some j) H) : ∃ i, V.int j = .int i ∧ R (some i) H := ⟨j, rfl, h⟩
theorem rd_chain {r r' : R2} (h : ta σ H fun x H1 => tb σ H1 fun y H2 => r x y H2 fun z H3 => ∃ k, z = .bl k ∧ if k = true then tc σ H3 fun w H4 => r' y w H4 Q else Q (.bl false) H3) : tChain r r' ta tb tc σ H Q := h
/-- the ways of an if whose test is a decision -/
theorem rd_ite {c : Prop} [Decidable c] {A B : Prop} (h1 : c → A) (h2 : ¬ c → B) : if decide c = true then A else B := by
  by_cases h : c
  · rw [decide_eq_true h]; exact h1 h
  · rw [decide_eq_false h]; exact h2 h
theorem rd_iteN {c : Prop} [Decidable c] {A B : Prop} (h1 : ¬ c → A) (h2 : c → B) : if (!decide c) = true then A else B := by
  by_cases h : c
  · rw [decide_eq_true h]; exact h2 h
  · rw [decide_eq_false h]; exact h1 h
theorem rd_iteT {A B : Prop} (h : A) : if true = true then A else B := h
theorem rd_iteF {A B : Prop} (h : B) : if false = true then A else B := h
/-! ### loops -/
/-- for k in range(n) -/
theorem rd_forR {n : Int} {H1 : Hp} (Pv : Nat → St → Hp → Prop) (hn : -(2 ^ 62) ≤ n) (hn' : n < 2 ^ 62) (h0 : Pv 0 σ H1)
    (hs : ∀ (i : Nat) σ H, (i : Int) < n → Pv i σ H → g (.int i) σ H fun σ2 H2 => t { D with nx := Pv (i + 1), bk := D.nx, ct := Pv (i + 1) } σ2 H2) (hd : ∀ σ H, Pv n.toNat σ H → D.nx σ H) (h : tl σ H fun vs H2 => vs = [.int n] ∧ H2 = H1)
    (hm : ∀ {P P' : List V → Hp → Prop}, (∀ b H, P b H → P' b H) → tl σ H P → tl σ H P') : tFor (iRng1 tl) g t D σ H := by
  refine hm ?_ h
  rintro vs H2 ⟨rfl, rfl⟩
  refine ⟨n, rfl, hn, hn', for_range (lo := 0) Pv h0 (fun i σ H hi p => ?_) hd⟩
  have := hs i σ H (by omega) p
  rw [Int.zero_add]
  exact this
theorem rd_forR1 {n : Int} {R : (It → Hp → Prop)} {H1 : Hp} (hn : -(2 ^ 62) ≤ n) (hn' : n < 2 ^ 62) (h : R (Itr 0 n.toNat) H1) : ∃ j : Int, [V.int n] = [.int j] ∧ -(2 ^ 62) ≤ j ∧ j < 2 ^ 62 ∧ R (Itr 0 j.toNat) H1 := ⟨n, rfl, hn, hn', h⟩
theorem forR {n : Int} {D : Ends} {σ : St} {H : Hp} (Pv : Nat → St → Hp → Prop) (h0 : Pv 0 σ H)
    (hs : ∀ (i : Nat) σ H, (i : Int) < n → Pv i σ H → g (.int i) σ H fun σ2 H2 => t { D with nx := Pv (i + 1), bk := D.nx, ct := Pv (i + 1) } σ2 H2) (hd : ∀ σ H, Pv n.toNat σ H → D.nx σ H) :
    ∃ W : Nat → Nat → St → Hp → Prop, (∃ m, W 0 m σ H) ∧ ∀ i m σ H, W i m σ H →
      ((Itr 0 n.toNat).stop i H ∧ D.nx σ H) ∨ ((Itr 0 n.toNat).go i H ∧ ∃ N : St → Hp → Prop, (∀ σ' H', N σ' H' → ∃ m', m' < m ∧ W (i + 1) m' σ' H') ∧ ∀ x H', (Itr 0 n.toNat).yld i H x H' → g x σ H' fun σ2 H2 => t { D with nx := N, ct := N, bk := D.nx } σ2 H2) :=
  for_range (lo := 0) Pv h0 (fun i σ H hi p => by rw [Int.zero_add]; exact hs i σ H (by omega) p) hd
theorem walk_enumS {z : Str} : Walk (Ites z) z.cps.size (fun _ => True) (fun i H v H' => ∃ T c, v = .ref T ∧ H T = none ∧ z.cps[i]? = some c ∧ H' = upd H T (.tup [.int (i : Nat), .str ⟨#[c]⟩])) :=
  ⟨fun _ _ hi _ => hi, fun _ _ => rfl, fun _ _ _ _ _ _ y => y⟩
theorem rd_yes (h : B true H) : tYes σ H B := h
/-- a comprehension over range(n) -/
theorem lcR {n : Int} {te : TE} {vs : List Nat} {H1 : Hp} {L : Addr} {Qd : Hp → Prop} (Pv : Nat → Hp → Prop) (h0 : Pv 0 (upd H1 L (.lst [])))
    (hs : ∀ (i : Nat) H, (i : Int) < n → Pv i H → g (.int i) (wipe σ vs) H fun σ2 H2 => wipe σ2 vs = wipe σ vs ∧ tt σ2 H2 fun b H3 =>
      if b = true then te σ2 H3 fun y H4 => ∃ acc, H4 L = some (.lst acc) ∧ acc.length < sizeLine ∧ Pv (i + 1) (upd H4 L (.lst (acc ++ [y]))) else Pv (i + 1) H3) (hd : ∀ H, Pv n.toNat H → Qd H) :
    ∃ W : Nat → Nat → Hp → Prop, (∃ m, W 0 m (upd H1 L (.lst []))) ∧ ∀ i m H, W i m H →
      ((Itr 0 n.toNat).stop i H ∧ Qd H) ∨ ((Itr 0 n.toNat).go i H ∧ ∃ Nx : Hp → Prop, (∀ H', Nx H' → ∃ m', m' < m ∧ W (i + 1) m' H') ∧ ∀ x H', (Itr 0 n.toNat).yld i H x H' → g x (wipe σ vs) H' fun σ2 H2 => wipe σ2 vs = wipe σ vs ∧ tt σ2 H2 fun b H3 =>
        if b = true then te σ2 H3 fun y H4 => ∃ acc, H4 L = some (.lst acc) ∧ acc.length < sizeLine ∧ Nx (upd H4 L (.lst (acc ++ [y]))) else Nx H3) :=
  lc_range (lo := 0) Pv h0 (fun i H hi p => by rw [Int.zero_add]; exact hs i H (by omega) p) hd
end
end L2

/-! list(zip(text, list)). -/
namespace Rz
open PySem PySem.Spec PyProof.Rows
open PySem.W (kdx_alive)
section
variable {prog : Program} {w : World} {A : Around} {E : Value → Shared → Prop} {s : Shared} {z TI TO i1 i2 : Addr} {fp1 fp2 : List Addr} {n i : Nat} {P1 P2 : Nat → Value → Prop} {St1 St2 : Nat → Heap → Prop} {T : Addr} {f : Bool} {oT : Obj}
/-- the next pair, while the pair handed out before is still held by someone -/
theorem held_next {Q : Value → Shared → Prop} (S : ZipSep2 z TI TO i1 i2 fp1 fp2) (D1 : Draws prog w A i1 fp1 n P1 St1) (D2 : Draws prog w A i2 fp2 n P2 St2)
    (hz : IsZipHeld s.heap z TI TO T f) (hT : s.heap.get? T = some oT) (hTI : IsTupOf2 s.heap TI (.ref i1) (.ref i2)) (s1 : St1 i s.heap) (s2 : St2 i s.heap) (hi : i < n)
    (hQ : ∀ x y h' tk, P1 i x → P2 i y → IsZipHeld h' z TI TO T true → St1 (i + 1) h' → St2 (i + 1) h' → IsTupOf2 h' s.heap.objs.size x y → h'.objs.size = s.heap.objs.size + 1 →
      (∀ c o, c ≠ z → c ≠ i1 → c ≠ i2 → s.heap.get? c = some o → h'.get? c = some o) → Q (.ref s.heap.objs.size) { s with heap := h', toks := tk }) :
    wpAny (model prog w) A (Builtin.«zip.__next__» ⟨[.ref z], []⟩) (fun fin s' => ∃ v, fin = .done (.ret v) ∧ Q v s') E s := by
  obtain ⟨hp, g, d, tk0, os⟩ := s
  show wpAny (model prog w) A (field (.ref z) 2 >>= _) _ E _
  refine wpAny_bind (wpAny_field hz rfl (x := Value.bool false) rfl ?_)
  show wpAny (model prog w) A (field (.ref z) 3 >>= _) _ E _
  refine wpAny_bind (wpAny_field hz rfl (x := Value.ref TI) rfl ?_)
  refine wpAny_bind (wpAny_seqItems hTI rfl ?_)
  show wpAny (model prog w) A (Builtin.SmallTypes.ownedTupleIsFree (.ref z) >>= _) _ E _
  refine wpAny_bind (wpAny_tupleHeld_zip hz hT fun p0 hz0 q0 => ?_)
  replace q0 : Heap.SameBut z hp p0 := q0
  replace hz0 : IsZipHeld p0 z TI TO T true := hz0
  simp only [Bool.false_eq_true, if_false]
  refine wpAny_bind ?_
  rw [← Array.forIn_toList]
  simp only [List.forIn_cons, List.forIn_nil]
  refine wpAny_bind (wpAny_bind (wpAny_holding ?_))
  show wpAny (model prog w) A (Builtin.SmallTypes.nextOf (.ref i1) >>= _) _ E ⟨p0, g, d, tk0, os⟩
  refine wpAny_bind (D1.item i _ _ _ hi (D1.over s1 q0 S.zf1) fun x p1 t1 hx a1 q1 => wpAny_pure ?_)
  replace q1 : Heap.SameBut i1 p0 p1 := q1
  refine wpAny_pure ?_
  refine wpAny_bind (wpAny_bind (wpAny_holding ?_))
  show wpAny (model prog w) A (Builtin.SmallTypes.nextOf (.ref i2) >>= _) _ E ⟨p1, g, d, t1, os⟩
  refine wpAny_bind (D2.item i _ _ _ hi (D2.over (D2.over s2 q0 S.zf2) q1 S.sep1_2) fun y p2 t2 hy a2 q2 => wpAny_pure ?_)
  replace q2 : Heap.SameBut i2 p1 p2 := q2
  refine wpAny_pure (wpAny_pure ?_)
  show wpAny (model prog w) A (newTuple [x, y] >>= _) _ E ⟨p2, g, d, t2, os⟩
  refine wpAny_bind (wpAny_newTuple ?_)
  have size2 : p2.objs.size = hp.objs.size := by rw [q2.1, q1.1, q0.1]
  have z2 : IsZipHeld p2 z TI TO T true := q2.extBut _ _ S.zi2 (q1.extBut _ _ S.zi1 hz0)
  have b1 : St1 (i + 1) p2 := D1.over a1 q2 S.sep2_1
  have kp : ∀ c o, c ≠ z → c ≠ i1 → c ≠ i2 → hp.get? c = some o → p2.get? c = some o := fun c o c1 c2 c3 e => q2.extBut _ _ c3 (q1.extBut _ _ c2 (q0.extBut _ _ c1 e))
  refine wpAny_pure ⟨_, rfl, ?_⟩
  show Q (.ref p2.objs.size) _
  have new : IsTupOf2 (p2.push { cls := .type "tuple", data := .seq #[x, y] }) p2.objs.size x y := Heap.get?_push_size _ rfl
  have sz : (p2.push { cls := .type "tuple", data := .seq #[x, y] }).objs.size = p2.objs.size + 1 := Heap.size_push ..
  rw [size2] at new sz ⊢
  exact hQ x y _ t2 hx hy (Heap.get?_push_of_some _ z2) (D1.frame _ _ _ b1 fun b _ o e => Heap.get?_push_of_some _ e) (D2.frame _ _ _ a2 fun b _ o e => Heap.get?_push_of_some _ e) new sz fun c o c1 c2 c3 e => Heap.get?_push_of_some _ (kp c o c1 c2 c3 e)
theorem held_end {Q : Fin → Shared → Prop} (S : ZipSep2 z TI TO i1 i2 fp1 fp2) (D1 : Draws prog w A i1 fp1 n P1 St1)
    (hz : IsZipHeld s.heap z TI TO T f) (hT : s.heap.get? T = some oT) (hTI : IsTupOf2 s.heap TI (.ref i1) (.ref i2)) (s1 : St1 n s.heap)
    (hE : ∀ h' e, (∀ c o, c ≠ z → c ≠ i1 → s.heap.get? c = some o → h'.get? c = some o) → (∃ o, h'.get? e = some o ∧ o.cls = .type "StopIteration") → E (.ref e) { s with heap := h' }) :
    wpAny (model prog w) A (Builtin.«zip.__next__» ⟨[.ref z], []⟩) Q E s := by
  obtain ⟨hp, g, d, tk0, os⟩ := s
  show wpAny (model prog w) A (field (.ref z) 2 >>= _) _ E _
  refine wpAny_bind (wpAny_field hz rfl (x := Value.bool false) rfl ?_)
  show wpAny (model prog w) A (field (.ref z) 3 >>= _) _ E _
  refine wpAny_bind (wpAny_field hz rfl (x := Value.ref TI) rfl ?_)
  refine wpAny_bind (wpAny_seqItems hTI rfl ?_)
  show wpAny (model prog w) A (Builtin.SmallTypes.ownedTupleIsFree (.ref z) >>= _) _ E _
  refine wpAny_bind (wpAny_tupleHeld_zip hz hT fun p0 hz0 q0 => ?_)
  replace q0 : Heap.SameBut z hp p0 := q0
  simp only [Bool.false_eq_true, if_false]
  refine wpAny_bind ?_
  rw [← Array.forIn_toList]
  simp only [List.forIn_cons, List.forIn_nil]
  refine wpAny_bind (wpAny_bind (wpAny_holding ?_))
  show wpAny (model prog w) A (Builtin.SmallTypes.nextOf (.ref i1) >>= _) _ E ⟨p0, g, d, tk0, os⟩
  refine wpAny_bind (D1.done ⟨p0, g, d, tk0, os⟩ _ _ (D1.over s1 q0 S.zf1) fun p1 e q1 he => ?_)
  replace q1 : Heap.ExtBut i1 p0 p1 := q1
  exact hE p1 e (fun c o c1 c2 u => q1 _ _ c2 (q0.extBut _ _ c1 u)) he
end
/-- where the walk stands -/
def ZAt (St1 St2 : Nat → Heap → Prop) (z TI TO i1 i2 L : Addr) (i : Nat) (h : Heap) : Prop :=
  IsTupOf2 h TI (.ref i1) (.ref i2) ∧ St1 i h ∧ St2 i h ∧ ((i = 0 ∧ IsZip h z TI TO .none ∧ IsTupOf2 h TO .none .none) ∨ ∃ T f oT, IsZipHeld h z TI TO T f ∧ h.get? T = some oT ∧ T ≠ z ∧ T ≠ i1 ∧ T ≠ i2 ∧ T ≠ L)
/-- the pairs so far -/
structure ZTold (P1 P2 : Nat → Value → Prop) (lo : Addr) (h : Heap) (as : List Addr) : Prop where
  rise : as.Pairwise (· < ·)
  above : ∀ a ∈ as, lo < a
  two : ∀ (j : Nat) (a : Addr), as[j]? = some a → ∃ x y, P1 j x ∧ P2 j y ∧ IsTupOf2 h a x y
theorem ZTold.low {P1 P2 : Nat → Value → Prop} {lo : Addr} {h : Heap} {as : List Addr} (t : ZTold P1 P2 lo h as) {a : Addr} (m : a ∈ as) : a < h.objs.size := by
  obtain ⟨j, e⟩ := List.mem_iff_getElem?.mp m
  obtain ⟨_, _, _, _, q⟩ := t.two j a e
  exact Heap.lt_size q
section
variable {prog : Program} {w : World} {A : Around} {s : Shared} {z TI TO i1 i2 L : Addr} {fp1 fp2 : List Addr} {n i : Nat} {P1 P2 : Nat → Value → Prop} {St1 St2 : Nat → Heap → Prop}
theorem z_item {E : Value → Shared → Prop} {Q : Option Value → Shared → Prop} (S : ZipSep2 z TI TO i1 i2 fp1 fp2) (D1 : Draws prog w A.in1 i1 fp1 n P1 St1) (D2 : Draws prog w A.in1 i2 fp2 n P2 St2) (st : ZAt St1 St2 z TI TO i1 i2 L i s.heap) (hi : i < n) (hL : L < s.heap.objs.size) (hLz : L ≠ TI)
    (hQ : ∀ x y h' tk, P1 i x → P2 i y → ZAt St1 St2 z TI TO i1 i2 L (i + 1) h' → IsTupOf2 h' s.heap.objs.size x y → h'.objs.size = s.heap.objs.size + 1 →
      (∀ c o, c ≠ z → c ≠ TO → c ≠ i1 → c ≠ i2 → s.heap.get? c = some o → h'.get? c = some o) → Q (some (.ref s.heap.objs.size)) { s with heap := h', toks := tk }) :
    wpAny (model prog w) A (pyNext (.ref z)) Q E s := by
  obtain ⟨hTI, s1, s2, st⟩ := st
  have l1 : i1 < s.heap.objs.size := let ⟨_, e⟩ := D1.live _ _ s1; Heap.lt_size e
  have l2 : i2 < s.heap.objs.size := let ⟨_, e⟩ := D2.live _ _ s2; Heap.lt_size e
  rcases st with ⟨e0, hz, hTO⟩ | ⟨T, f, oT, hz, hT, n1, n2, n3, n4⟩
  · have lz : z < s.heap.objs.size := Heap.lt_size hz
    refine wpAny_pyNext_zipD2_item S D1 D2 hz hTI hTO s1 s2 hi hi fun x y h' tk hx hy hz' _ a1 a2 tup sz kp => ?_
    exact hQ x y h' tk hx hy ⟨kp _ _ S.TIz S.TITO S.TIi1 S.TIi2 hTI, a1, a2, .inr ⟨_, false, _, hz', tup, Nat.ne_of_gt lz, Nat.ne_of_gt l1, Nat.ne_of_gt l2, Nat.ne_of_gt hL⟩⟩ tup sz kp
  · have ty : s.TypeIs (.ref z) "zip" := ⟨_, hz, rfl⟩
    unfold pyNext
    refine wpAny_bind (wpAny_attempt (wpAny_callSpecial?_slot (name := Str.ofString "__next__") ty F.slot_zip_next (wpAny_call_entry F.slot_zip_next ty F.entry_zip_next ?_ (F.args_zip_next_1 _))))
    refine held_next S D1 D2 hz hT hTI s1 s2 hi fun x y h' tk hx hy hz' a1 a2 tup sz kp => wpAny_pure ?_
    exact hQ x y h' tk hx hy ⟨kp _ _ S.TIz S.TIi1 S.TIi2 hTI, a1, a2, .inr ⟨T, true, oT, hz', kp _ _ n1 n2 n3 hT, n1, n2, n3, n4⟩⟩ tup sz fun c o c1 _ c3 c4 e => kp c o c1 c3 c4 e
theorem z_end {E : Value → Shared → Prop} {Q : Option Value → Shared → Prop} (S : ZipSep2 z TI TO i1 i2 fp1 fp2) (D1 : Draws prog w A.in1 i1 fp1 n P1 St1) (D2 : Draws prog w A.in1 i2 fp2 n P2 St2) (st : ZAt St1 St2 z TI TO i1 i2 L n s.heap)
    (hQ : ∀ h' tk, (∀ c o, c ≠ z → c ≠ TO → c ≠ i1 → c ≠ i2 → s.heap.get? c = some o → h'.get? c = some o) → Q none { s with heap := h', toks := tk }) :
    wpAny (model prog w) A (pyNext (.ref z)) Q E s := by
  obtain ⟨hTI, s1, s2, st⟩ := st
  rcases st with ⟨e0, hz, hTO⟩ | ⟨T, f, oT, hz, hT, n1, n2, n3, n4⟩
  · exact wpAny_pyNext_zipD2_end S D1 D2 hz hTI hTO s1 s2 (Nat.le_refl _) (Nat.le_refl _) (.inl rfl) hQ
  · have ty : s.TypeIs (.ref z) "zip" := ⟨_, hz, rfl⟩
    unfold pyNext
    refine wpAny_bind (wpAny_attempt (wpAny_callSpecial?_slot (name := Str.ofString "__next__") ty F.slot_zip_next (wpAny_call_entry F.slot_zip_next ty F.entry_zip_next ?_ (F.args_zip_next_1 _))))
    refine held_end S D1 hz hT hTI s1 fun h' e kp he => ?_
    obtain ⟨o, ho, hc⟩ := he
    refine wpAny_bind (wpAny_isInstance (T := "StopIteration") (b := true) ⟨o, ho, hc⟩ isSubtype_stop ?_)
    exact wpAny_pure (hQ _ _ fun c o c1 _ c3 _ e => kp c o c1 c3 e)
/-- the draining into the new list at L -/
theorem z_loop {R : Result → Shared → Prop} (S : ZipSep2 z TI TO i1 i2 fp1 fp2) (D1 : Draws prog w A.in1.in1 i1 fp1 n P1 St1) (D2 : Draws prog w A.in1.in1 i2 fp2 n P2 St2) (hf1 : L ∉ fp1) (hf2 : L ∉ fp2) (hLz : L ≠ z) (hLT : L ≠ TI) (hLO : L ≠ TO) (cells : ∀ c, c = z ∨ c = TO ∨ c = i1 ∨ c = i2 → c < L) (hn : n ≤ sizeLine) (res : Value) {h0 : Heap}
    (hR : ∀ h' tk acc c as, (∀ b o, b ≠ L → b ≠ z → b ≠ TO → b ≠ i1 → b ≠ i2 → h0.get? b = some o → h'.get? b = some o) → h'.get? L = some { cls := .type "list", dict := none, data := .seq acc c, slots := #[] } → as.length = n → ZTold P1 P2 L h' as →
      acc.toList = as.map Value.ref → R (.ok (.ret res)) { s with heap := h', toks := tk }) :
    ∀ (k i : Nat) (h : Heap) (tk c : Nat) (acc : Array Value) (as : List Addr), n - i = k → i ≤ n → ZAt St1 St2 z TI TO i1 i2 L i h → (∀ b o, b ≠ L → b ≠ z → b ≠ TO → b ≠ i1 → b ≠ i2 → h0.get? b = some o → h.get? b = some o) →
      h.get? L = some { cls := .type "list", dict := none, data := .seq acc c, slots := #[] } → acc.toList = as.map Value.ref → as.length = i → ZTold P1 P2 L h as →
      codeAny (model prog w) A (.builtin "list.extend.loop" ⟨[.ref L, .ref z, res], []⟩) R { s with heap := h, toks := tk } := by
  have off : ∀ {b : Addr}, L ≤ b → b ≠ z ∧ b ≠ TO ∧ b ≠ i1 ∧ b ≠ i2 := fun {b} q =>
    ⟨fun e => absurd (cells z (.inl rfl)) (by rw [← e]; exact Nat.not_lt.mpr q), fun e => absurd (cells TO (.inr (.inl rfl))) (by rw [← e]; exact Nat.not_lt.mpr q), fun e => absurd (cells i1 (.inr (.inr (.inl rfl)))) (by rw [← e]; exact Nat.not_lt.mpr q), fun e => absurd (cells i2 (.inr (.inr (.inr rfl)))) (by rw [← e]; exact Nat.not_lt.mpr q)⟩
  intro k
  induction k with
  | zero =>
    intro i h tk c acc as hk hi st kp hL hacc hal told
    obtain rfl : i = n := by omega
    obtain ⟨o1, o2, o3, o4⟩ := off (Nat.le_refl L)
    refine codeAny_builtin F.entry_extend_loop ?_
    rw [Around.under_plainId F.plain_extend_loop _]
    show wpAny (model prog w) A.in1 (pyNext (.ref z) >>= _) _ _ _
    refine wpAny_bind (z_end (s := { s with heap := h, toks := tk }) S D1 D2 st fun h' tk' kq => wpAny_pure ?_)
    refine hR h' tk' acc c as (fun b o b0 b1 b2 b3 b4 e => kq b o b1 b2 b3 b4 (kp b o b0 b1 b2 b3 b4 e)) (kq L _ o1 o2 o3 o4 hL) hal ⟨told.rise, told.above, fun j a hj => ?_⟩ hacc
    obtain ⟨x, y, e1, e2, e3⟩ := told.two j a hj
    obtain ⟨q1, q2, q3, q4⟩ := off (Nat.le_of_lt (told.above a (List.mem_of_getElem? hj)))
    exact ⟨x, y, e1, e2, kq a _ q1 q2 q3 q4 e3⟩
  | succ k ih =>
    intro i h tk c acc as hk hi st kp hL hacc hal told
    have hlt : i < n := by omega
    have hsz : acc.size = i := by rw [← Array.length_toList, hacc, List.length_map, hal]
    have lL : L < h.objs.size := Heap.lt_size hL
    obtain ⟨o1, o2, o3, o4⟩ := off (Nat.le_refl L)
    refine codeAny_builtin F.entry_extend_loop ?_
    rw [Around.under_plainId F.plain_extend_loop _]
    show wpAny (model prog w) A.in1 (pyNext (.ref z) >>= _) _ _ _
    refine wpAny_bind (z_item (s := { s with heap := h, toks := tk }) S D1 D2 st hlt lL hLT fun x y h' tk' hx hy st' tup sz kq => ?_)
    dsimp only at tup sz kq ⊢
    have hL' := kq L _ o1 o2 o3 o4 hL
    have up : ∀ b o, b ≠ L → h'.get? b = some o → (h'.update L (Obj.mapSeq (·.push (Value.ref h.objs.size)))).get? b = some o := fun b o hb e => (Heap.get?_update_other _ _ (Ne.symm hb)).trans e
    have far : h.objs.size ≠ L := Nat.ne_of_gt lL
    show wpAny (model prog w) A.in1 (updateSeq L (·.push (Value.ref h.objs.size)) >>= _) _ _ _
    refine wpAny_bind (wpAny_updateSeq hL' rfl ?_ (by rw [hsz]; omega) (by show (acc.push (Value.ref h.objs.size)).size ≤ sizeLine + 1; rw [Array.size_push, hsz]; omega))
    refine wpAny_pure ⟨plainId_quiet F.plain_extend_loop _, ?_⟩
    refine ih (i + 1) _ tk' _ (acc.push (Value.ref h.objs.size)) (as ++ [h.objs.size]) (by omega) hlt ?_ (fun b o b0 b1 b2 b3 b4 e => up b o b0 (kq b o b1 b2 b3 b4 (kp b o b0 b1 b2 b3 b4 e))) (Heap.get?_update_self _ hL' rfl) (by rw [Array.toList_push, hacc, List.map_append]; rfl) (by rw [List.length_append, hal]; rfl) ⟨?_, ?_, ?_⟩
    · obtain ⟨t1, t2, t3, t4⟩ := st'
      refine ⟨up _ _ (Ne.symm hLT) t1, D1.frame _ _ _ t2 fun b hb o e => up b o (fun q => hf1 (q ▸ hb)) e, D2.frame _ _ _ t3 fun b hb o e => up b o (fun q => hf2 (q ▸ hb)) e, ?_⟩
      rcases t4 with ⟨e0, e1, e2⟩ | ⟨T, f, oT, e1, e2, m1, m2, m3, m4⟩
      · exact .inl ⟨e0, up _ _ (Ne.symm hLz) e1, up _ _ (Ne.symm hLO) e2⟩
      · exact .inr ⟨T, f, oT, up _ _ (Ne.symm hLz) e1, up _ _ m4 e2, m1, m2, m3, m4⟩
    · refine List.pairwise_append.mpr ⟨told.rise, List.pairwise_singleton _ _, fun a ha b hb => ?_⟩
      rw [List.mem_singleton.mp hb]
      exact told.low ha
    · intro a ha
      rcases List.mem_append.mp ha with ha | ha
      · exact told.above a ha
      · rw [List.mem_singleton.mp ha]; exact lL
    · intro j b hj
      rcases Nat.lt_trichotomy j as.length with q | q | q
      · rw [List.getElem?_append_left q] at hj
        obtain ⟨x', y', e1, e2, e3⟩ := told.two j b hj
        have hb := told.above b (List.mem_of_getElem? hj)
        obtain ⟨r1, r2, r3, r4⟩ := off (Nat.le_of_lt hb)
        exact ⟨x', y', e1, e2, up b _ (Nat.ne_of_gt hb) (kq b _ r1 r2 r3 r4 e3)⟩
      · subst q
        have hb : h.objs.size = b := by simpa using hj
        rw [← hb]
        exact ⟨x, y, by rw [hal]; exact hx, by rw [hal]; exact hy, up _ _ far tup⟩
      · rw [List.getElem?_eq_none (by rw [List.length_append, List.length_singleton]; omega)] at hj
        cases hj
end
theorem zip_no_len : typeLookup (.type "zip") "__len__" = pure none := am_miss_of_fast (by decide +kernel)
theorem zip_no_hint : typeLookup (.type "zip") "__length_hint__" = pure none := am_miss_of_fast (by decide +kernel)
section
variable {prog : Program} {w : World} {A : Around} {s : Shared} {z TI TO i1 i2 L : Addr} {fp1 fp2 : List Addr} {n i : Nat} {P1 P2 : Nat → Value → Prop} {St1 St2 : Nat → Heap → Prop}
theorem z_list {Q : Value → Shared → Prop} {E : Value → Shared → Prop} (S : ZipSep2 z TI TO i1 i2 fp1 fp2) (D1 : Draws prog w A.in1.in1.in1 i1 fp1 n P1 St1) (D2 : Draws prog w A.in1.in1.in1 i2 fp2 n P2 St2) (low : ∀ c, c ∈ fp1 ∨ c ∈ fp2 → c < s.heap.objs.size) (hn : n ≤ sizeLine)
    (hz : IsZip s.heap z TI TO .none) (hTI : IsTupOf2 s.heap TI (.ref i1) (.ref i2)) (hTO : IsTupOf2 s.heap TO .none .none) (s1 : St1 0 s.heap) (s2 : St2 0 s.heap)
    (hQ : ∀ h' tk acc c as, (∀ b o, b ≠ z → b ≠ TO → b ≠ i1 → b ≠ i2 → s.heap.get? b = some o → h'.get? b = some o) → h'.get? s.heap.objs.size = some { cls := .type "list", dict := none, data := .seq acc c, slots := #[] } → as.length = n → ZTold P1 P2 s.heap.objs.size h' as →
      acc.toList = as.map Value.ref → Q (.ref s.heap.objs.size) { s with heap := h', toks := tk }) :
    wpAny (model prog w) A (call (.type "list") [.ref z]) Q E s := by
  have lz : z < s.heap.objs.size := Heap.lt_size hz
  have lTI : TI < s.heap.objs.size := Heap.lt_size hTI
  have lTO : TO < s.heap.objs.size := Heap.lt_size hTO
  have l1 : i1 < s.heap.objs.size := low _ (.inl S.mem1)
  have l2 : i2 < s.heap.objs.size := low _ (.inr S.mem2)
  refine callType_codes (Q₁ := fun obj t => obj = .ref s.heap.objs.size ∧ t = { s with heap := s.heap.push { cls := .type "list", data := .seq #[] } }) F.called_list (F.typeCall_list_1 _) F.entry_list_init
    (code_list_new _ ⟨rfl, rfl⟩) fun obj t ht => ?_
  obtain ⟨rfl, rfl⟩ := ht
  have hL : (s.heap.push { cls := .type "list", data := .seq #[] }).get? s.heap.objs.size = some { cls := .type "list", data := .seq #[] } := Heap.get?_push_size _ rfl
  generalize eL : s.heap.objs.size = L at *
  refine ⟨⟨_, hL, rfl⟩, F.args_list_init_2 _ _, ?_⟩
  have mk : ∀ b o, s.heap.get? b = some o → (s.heap.push { cls := .type "list", data := .seq #[] }).get? b = some o := fun b o e => Heap.get?_push_of_some _ e
  show wpAny (model prog w) A.in1.in1 (do let old ← Builtin.List.listItems (.ref L); Builtin.List.listUpdate (.ref L) (fun _ => #[]); letGo old.toList.reverse; Builtin.List.listExtendWith (.ref L) (.ref z) .none) _ _ _
  refine wpAny_bind ?_
  unfold Builtin.List.listItems
  refine wpAny_bind (wpAny_seqItems hL rfl (wpAny_pure ?_))
  show wpAny (model prog w) A.in1.in1 (updateSeq L (fun _ => #[]) >>= fun _ => letGo (#[] : Array Value).toList.reverse >>= fun _ => Builtin.List.listExtendWith (.ref L) (.ref z) .none) _ _ _
  refine wpAny_bind (wpAny_updateSeq hL rfl ?_)
  have hL2 := Heap.get?_update_self (Obj.mapSeq (fun _ => (#[] : Array Value))) hL rfl
  have up : ∀ (h : Heap) (f : Obj → Obj), (∀ b o, s.heap.get? b = some o → h.get? b = some o) → ∀ b o, s.heap.get? b = some o → (h.update L f).get? b = some o := fun h f q b o e => (Heap.get?_update_other _ _ (fun q => by have := Heap.lt_size e; rw [eL, ← q] at this; exact Nat.lt_irrefl _ this)).trans (q b o e)
  have mk2 := up _ (Obj.mapSeq (fun _ => (#[] : Array Value))) mk
  refine wpAny_bind (wpAny_letGo ?_)
  unfold Builtin.List.listExtendWith
  have ty : ∀ {h : Heap} {q : Nat}, (∀ b o, s.heap.get? b = some o → h.get? b = some o) → ({ s with heap := h, toks := q } : Shared).TypeIs (.ref z) "zip" := fun {h q} k => ⟨_, k z _ hz, rfl⟩
  refine wpAny_bind (wpAny_typeOf (T := "zip") (ty mk2) ?_)
  have r1 : Builtin.List.listSameRef (.ref L) (.ref z) = false := by simp [Builtin.List.listSameRef, Nat.ne_of_gt lz]
  have r2 : (Value.type "zip" == Value.type "list") = false := by decide
  have r3 : (Value.type "zip" == Value.type "tuple") = false := by decide
  simp only [r1, r2, r3, Bool.or_false, Bool.false_eq_true, if_false]
  refine wpAny_bind (wpAny_pyIter_zip (mk2 _ _ hz) ?_)
  refine wpAny_bind (wpAny_holding ?_)
  unfold Builtin.List.listLengthHint
  refine wpAny_bind (wpAny_specialOf (ty mk2) zip_no_len ?_)
  show wpAny (model prog w) A.in1.in1 (specialOf (Value.ref z) (Str.ofString "__length_hint__") >>= _) _ _ _
  refine wpAny_bind (wpAny_specialOf (ty mk2) zip_no_hint ?_)
  refine wpAny_pure ?_
  show wpAny (model prog w) A.in1.in1 (rule "list.extend.makes-room" >>= fun _ => Builtin.List.listTouch (.ref L) >>= fun _ =>
    again (.builtin "list.extend.loop" ⟨[.ref L, .ref z, .none], []⟩)) _ _ _
  refine wpAny_bind (wpAny_rule (wpAny_bind ?_))
  show wpAny (model prog w) A.in1.in1 (updateSeq L (·.push .none) >>= fun _ => updateSeq L (·.pop)) _ _ _
  refine wpAny_bind (wpAny_updateSeq hL2 rfl ?_)
  have hL3 := Heap.get?_update_self (Obj.mapSeq (·.push Value.none)) hL2 rfl
  refine wpAny_updateSeq (hz := by seq_fits) hL3 rfl ?_
  have hL4 := Heap.get?_update_self (Obj.mapSeq (·.pop)) hL3 rfl
  have mk4 := up _ (Obj.mapSeq (·.pop)) (up _ (Obj.mapSeq (·.push Value.none)) mk2)
  refine wpAny_pure ⟨plainId_quiet F.plain_extend_loop _, ?_⟩
  refine z_loop (A := A.in1) (h0 := s.heap) S D1 D2 (fun q => Nat.lt_irrefl _ (low _ (.inl q))) (fun q => Nat.lt_irrefl _ (low _ (.inr q))) (Nat.ne_of_gt lz) (Nat.ne_of_gt lTI) (Nat.ne_of_gt lTO) ?_ hn .none (fun h' tk acc c as kp hL' hl told hacc => ?_)
    n 0 _ _ _ #[] [] (Nat.sub_zero _) (Nat.zero_le _) ?_ (fun b o _ _ _ _ _ e => mk4 b o e) hL4 rfl rfl ⟨List.Pairwise.nil, fun _ m => (nomatch m), fun j a e => by simp at e⟩
  · rintro c (e | e | e | e)
    · rw [e]; exact lz
    · rw [e]; exact lTO
    · rw [e]; exact l1
    · rw [e]; exact l2
  · exact ⟨rfl, hQ h' tk acc c as (fun b o b1 b2 b3 b4 e => kp b o (fun q => by have := Heap.lt_size e; rw [eL, q] at this; exact Nat.lt_irrefl _ this) b1 b2 b3 b4 e) hL' hl told hacc⟩
  · exact ⟨mk4 _ _ hTI, D1.frame _ _ _ s1 fun b _ o e => mk4 b o e, D2.frame _ _ _ s2 fun b _ o e => mk4 b o e, .inl ⟨rfl, mk4 _ _ hz, mk4 _ _ hTO⟩⟩
end
end Rz
namespace L2
open PySem PySem.Spec PyProof.Rows
/-- pairs laid one behind another -/
def putP : Hp → List Addr → List (V × V) → Hp
  | H, a :: as, p :: r => putP (upd H a (.tup [p.1, p.2])) as r
  | H, [], _ => H
  | H, _ :: _, [] => H
theorem putP_off {b : Addr} : ∀ (as : List Addr) (ps : List (V × V)) (H : Hp), b ∉ as → putP H as ps b = H b
  | [], _, _, _ => rfl
  | _ :: _, [], _, _ => rfl
  | a :: as, p :: r, H, h => by
    have h1 : b ≠ a := fun e => h (e ▸ List.mem_cons_self)
    have h2 : b ∉ as := fun e => h (List.mem_cons_of_mem _ e)
    exact (putP_off as r _ h2).trans (upd_ne h1)
theorem putP_at : ∀ (as : List Addr) (ps : List (V × V)) (H : Hp), as.Nodup → ∀ (j : Nat) (a : Addr) (p : V × V), as[j]? = some a → ps[j]? = some p → putP H as ps a = some (.tup [p.1, p.2])
  | [], _, _, _, _, _, _, e, _ => by simp at e
  | _ :: _, [], _, _, _, _, _, _, e => by simp at e
  | b :: as, q :: r, H, nd, 0, a, p, e1, e2 => by
    have e3 : b = a := by simpa using e1
    have e4 : q = p := by simpa using e2
    subst e3 e4
    exact (putP_off as r _ (List.nodup_cons.mp nd).1).trans upd_same
  | b :: as, q :: r, H, nd, j + 1, a, p, e1, e2 => putP_at as r _ (List.nodup_cons.mp nd).2 j a p (by simpa using e1) (by simpa using e2)
/-- list(zip(text, list)), both of one length: the new list at L, its pairs at as -/
def rZipS (K : PySem.W.Frag) : List V → Hp → VK → Prop := fun vs H Q => ∃ (x : Str) (b : Addr) (ys : List V), vs = [.str x, .ref b] ∧ SqL K H b ys ∧ x.cps.size = ys.length ∧
  ∀ (L : Addr) (as : List Addr) (H' : Hp), (∀ c o, H c = some o → H' c = some o) → H L = none → (∀ a ∈ as, H a = none) → L ∉ as → as.length = ys.length → H' L = some (.lst (as.map V.ref)) →
    (∀ (j : Nat) (a : Addr) (c : Nat) (y : V), as[j]? = some a → x.cps[j]? = some c → ys[j]? = some y → H' a = some (.tup [.str ⟨#[c]⟩, y])) → Q (.ref L) H'
def tZipS (K : PySem.W.Frag) (ta : TA) : TE := fun σ H Q => ta σ H fun vs H1 => rZipS K vs H1 Q
theorem vals_ix : ∀ {vs : List V} {us : List Value}, Vals vs us → ∀ {j : Nat} {u : Value}, us[j]? = some u → ∃ v, vs[j]? = some v ∧ RelV v u
  | _, _, .nil, _, _, e => by simp at e
  | _, _, .cons r _, 0, _, e => ⟨_, rfl, by have := Option.some.inj e; subst this; exact r⟩
  | _, _, .cons _ t, j + 1, _, e => vals_ix t (by simpa using e)
theorem refs_rel : ∀ as : List Addr, Vals (as.map V.ref) (as.map Value.ref)
  | [] => .nil
  | _ :: as => .cons rfl (refs_rel as)
section
variable {X : Cx} {e e2 : Expr} {ta : TA} {p q pos pos2 : Pos}
theorem pe_zipS (hc : X.calm = true) (hg : Gl X "list") (hm : X.mg "list" = none) (hgz : Gl X "zip") (hmz : X.mg "zip" = none) (ha : PA X [e, e2] ta)
    (na : starEach [.Call (.Name "zip" q) [e, e2] [] pos2] X.env = (false, eval (.Call (.Name "zip" q) [e, e2] [] pos2) X.env) :: starEach [] X.env := by rfl)
    (hs : starEach [e, e2] X.env = (false, eval e X.env) :: starEach [e2] X.env := by rfl) (hp : (backTo pos2 (starEach [e2] X.env)).any (·.1) = false := by rfl) :
    PE X (.Call (.Name "list" p) [.Call (.Name "zip" q) [e, e2] [] pos2] [] pos) (tZipS X.K ta) := by
  refine ⟨fun pins s σ H Q I h => ?_⟩
  refine Call_ (ld_blt I hg hm boot_list (PyProof.Rows.callWith_type1 (args_cons ?_ na) na))
  refine Call_ (ld_blt I hgz hmz PyProof.Rows.boot_zip (PyProof.Rows.callWith_type1 (thn (ha.run pos2 pins s σ H _ I h) fun us s1 ⟨vs, H1, I1, r1, q1⟩ => ?_) hs hp))
  obtain ⟨x, b, ys, ex, hb, hlen, fin⟩ := q1
  subst ex
  obtain ⟨u1, u2, rfl, ru, rb⟩ := vals2 r1
  obtain ⟨t, rfl⟩ := ru
  cases rb
  obtain ⟨its, rv, pl, hle⟩ := I1.list hb
  have lb : b < s1.heap.objs.size := pl.lt
  have vl : ys.length = its.length := rv.length
  refine zip_begins2 (begins_text x t) (begins_list b its.toArray) trivial pl.isList fun h1 hz hTI hTO g1 g2 hsz hk => args_nil ?_
  have hh : X.A.handled = none := I1.ok.hd hc
  have D1 := Draws.text (prog := X.prog) (w := X.w) (A := X.A.in1.in1.in1) hh s1.heap.objs.size x t
  have hbi : b ≠ s1.heap.objs.size + 1 := Nat.ne_of_lt (Nat.lt_succ_of_lt lb)
  have D2 := Draws.list (prog := X.prog) (w := X.w) (A := X.A.in1.in1.in1) hh (s1.heap.objs.size + 1) b hbi its.toArray
  have S := zip_sep2 (N := s1.heap.objs.size) (fp1 := []) (fp2 := [b]) (fun _ m => (nomatch m)) (fun c m => by rw [List.mem_singleton.mp m]; exact lb)
  have en : its.toArray.size = x.cps.size := by rw [List.size_toArray, ← vl, hlen]
  rw [en] at D2
  refine Rz.z_list (s := { s1 with heap := h1 }) (A := X.A) S D1 D2 ?_ (by omega) hz hTI hTO ⟨_, g1, rfl, rfl⟩ ⟨⟨_, g2, rfl, rfl⟩, (pl.isList).at fun o e => hk b o e⟩ fun h' tk acc c as kp hL hal told hacc => ?_
  · intro c m
    show c < h1.objs.size
    rw [hsz]
    rcases m with m | m
    · rw [List.mem_singleton.mp m]; exact Nat.lt_add_of_pos_right (by decide)
    · rcases List.mem_cons.mp m with m | m
      · rw [m]; exact Nat.add_lt_add_left (by decide) _
      · rw [List.mem_singleton.mp m]; exact Nat.lt_of_lt_of_le lb (Nat.le_add_right _ _)
  · dsimp only at kp hL told ⊢
    have lN : s1.heap.objs.size ≤ h1.objs.size := by rw [hsz]; exact Nat.le_add_right _ _
    have old : ∀ d o, s1.heap.get? d = some o → h'.get? d = some o := fun d o e => by
      have ld : d < s1.heap.objs.size := Heap.lt_size e
      exact kp d o (Nat.ne_of_lt (Nat.lt_of_lt_of_le ld (Nat.le_add_right _ _))) (Nat.ne_of_lt (Nat.lt_of_lt_of_le ld (Nat.le_add_right _ _))) (Nat.ne_of_lt ld) (Nat.ne_of_lt (Nat.lt_succ_of_lt ld)) (hk d o e)
    have nd : as.Nodup := told.rise.imp fun {a b} (h : a < b) => Nat.ne_of_lt h
    have ge : ∀ a ∈ as, s1.heap.objs.size ≤ a := fun a m => Nat.le_trans lN (Nat.le_of_lt (told.above a m))
    have new : ∀ a ∈ as, H1 a = none := fun a m => I1.hok.fresh (ge a m)
    have newL : H1 h1.objs.size = none := I1.hok.fresh lN
    have Las : h1.objs.size ∉ as := fun m => Nat.lt_irrefl _ (told.above _ m)
    have lo : ∀ d, d < s1.heap.objs.size → d ∉ as ∧ d ≠ h1.objs.size := fun d ld => ⟨fun m => absurd ld (Nat.not_lt.mpr (ge d m)), Nat.ne_of_lt (Nat.lt_of_lt_of_le ld lN)⟩
    let ps : List (V × V) := (x.cps.toList.map fun c => V.str ⟨#[c]⟩).zip ys
    have pget : ∀ (j : Nat) (c : Nat) (y : V), x.cps[j]? = some c → ys[j]? = some y → ps[j]? = some (.str ⟨#[c]⟩, y) := fun j c y e1 e2 => by
      have e3 : (x.cps.toList.map fun c => V.str ⟨#[c]⟩)[j]? = some (.str ⟨#[c]⟩) := by rw [List.getElem?_map, Array.getElem?_toList, e1]; rfl
      exact List.getElem?_zip_eq_some.mpr ⟨e3, e2⟩
    let H2 : Hp := putP (upd H1 h1.objs.size (.lst (as.map V.ref))) as ps
    have H2L : H2 h1.objs.size = some (.lst (as.map V.ref)) := (putP_off as ps _ Las).trans upd_same
    have H2off : ∀ d, d ∉ as → d ≠ h1.objs.size → H2 d = H1 d := fun d m n => (putP_off as ps _ m).trans (upd_ne n)
    have H2k : ∀ d o, H1 d = some o → H2 d = some o := fun d o e => by
      rw [H2off d (fun m => by rw [new d m] at e; cases e) (fun m => by rw [m, newL] at e; cases e)]
      exact e
    have H2a : ∀ (j : Nat) (a : Addr) (c : Nat) (y : V), as[j]? = some a → x.cps[j]? = some c → ys[j]? = some y → H2 a = some (.tup [.str ⟨#[c]⟩, y]) := fun j a c y e1 e2 e3 => putP_at as ps _ nd j a _ e1 (pget j c y e2 e3)
    refine ⟨.ref h1.objs.size, H2, ?_, rfl, fin _ as H2 H2k newL new Las (by rw [hal, hlen]) H2L H2a⟩
    refine I1.call' (ch := []) rfl ⟨fun d o u _ _ _ => old d o u, fun d o u _ _ _ => ⟨o.slots, old d o u⟩, fun d o u n _ => ?_, fun d o u _ => ⟨o, old d o u⟩, fun d _ u => H2k d _ u, fun d _ _ u => H2k d _ u, fun d _ u => ⟨#[], by rw [H2k d _ u]; simp⟩⟩ (fun d o u => ?_) I1.bare fun d m => (nomatch m)
    · obtain ⟨n1, n2⟩ := lo d (Heap.lt_size u)
      rw [H2off d n1 n2]; exact n
    · by_cases m : d ∈ as
      · obtain ⟨j, ej⟩ := List.mem_iff_getElem?.mp m
        obtain ⟨v1, v2, p1, p2, tup⟩ := told.two j d ej
        obtain ⟨c, tk2, ec, rfl⟩ := p1
        have p2' : its[j]? = some v2 := by simpa using p2
        obtain ⟨y, ey, ry⟩ := vals_ix rv p2'
        rw [H2a j d c y ej ec ey] at u
        cases u
        exact ⟨by show 2 ≤ sizeLine; decide, [.str ⟨#[c]⟩ tk2, v2], .cons ⟨_, rfl⟩ (.cons ry .nil), ⟨_, tup, rfl, _, rfl⟩⟩
      · by_cases m2 : d = h1.objs.size
        · rw [m2] at u ⊢
          rw [H2L] at u
          cases u
          refine ⟨by rw [List.length_map]; omega, acc.toList, c, by rw [hacc]; exact refs_rel as, ?_⟩
          rw [Array.toArray_toList]
          exact hL
        · rw [H2off d m m2] at u
          exact (I1.hok d o u).stay (fun d' v _ y => old d' v y) (fun d' y => H2k d' _ y) fun d' zs y => H2k d' _ y
end
end L2

/-! Built-ins over instances of own classes: len, abs, list. -/
namespace L2
open PySem PySem.Spec PyProof.Rows
section
variable {X : Cx} {CX CX2 : CXT} {k k2 : Nat} {f f2 C a dx : Addr} {fs : List (Str × V)} {fd fd2 : FuncData} {ps ps2 : List Str} {sp sp2 : Sp} {pins : List (Addr × Obj)} {σ : St} {H : Hp} {s : Shared}
/-- a def of one argument runs within a built-in -/
theorem run_one {A' : Around} {Q : VK} {E : XK} (F : FnOk X.prog X.w X.K X.mg X.base CX k f fd ps sp) (hr : Room k A') (hfr : A'.frames = X.A.frames) (hb : Binds X.K fd ps []) (hx : PassesAt CX X σ E) (I : Inv X pins σ H s) (h : sp [.ref a] H Q E) :
    wpAny (model X.prog X.w) A' (call (.ref f) [.ref a]) (EP X pins σ Q) X.xe s := run_in (vs := [.ref a]) (dvs := []) (ds := []) F hr hfr hb .nil hx I (.cons rfl .nil) (by simpa using h)
/-- len(o) by an own __len__ -/
def rLenO (C : Addr) (sp : Sp) (E : St → XK) (σ : St) : List V → Hp → VK → Prop := fun xs H Q => ∃ a dx fs, xs = [.ref a] ∧ H a = some (.ins C dx fs) ∧ sp [.ref a] H (fun v H' => ∃ n : Int, v = .int n ∧ 0 ≤ n ∧ n < 2 ^ 63 ∧ Q (.int n) H') (E σ)
def tLenO (C : Addr) (sp : Sp) (E : St → XK) (t : TA) : TE := fun σ H Q => t σ H fun vs H1 => rLenO C sp E σ vs H1 Q
theorem len_run {A' : Around} {Q : VK} {E : XK} (m : Meth X.K C "__len__" f) (F : FnOk X.prog X.w X.K X.mg X.base CX k f fd ps sp) (hr : Room (k + 1) A') (hfr : A'.frames = X.A.frames) (hb : Binds X.K fd ps []) (hx : PassesAt CX X σ E) (I : Inv X pins σ H s) (ea : H a = some (.ins C dx fs))
    (h : sp [.ref a] H (fun v H' => ∃ n : Int, v = .int n ∧ 0 ≤ n ∧ n < 2 ^ 63 ∧ Q (.int n) H') E) : wpAny (model X.prog X.w) A' (call (.builtin "len") [.ref a]) (fun u s' => ∃ n t H', u = .int n t ∧ 0 ≤ n ∧ n < 2 ^ 63 ∧ Inv X pins σ H' s' ∧ Q (.int n) H') X.xe s := by
  obtain ⟨od, J⟩ := I.instAt ea
  obtain ⟨m0, hF⟩ := I.fr
  refine PySem.W.len_K hF I.ok.mod.kin J m.at_ m.fn (thn (run_one F hr.in1 hfr hb hx I h) ?_)
  rintro u s2 ⟨x, H2, I2, rx, n, rfl, n0, n1, q⟩
  obtain ⟨t, rfl⟩ := rx
  exact ⟨⟨n0, n1⟩, n, _, H2, rfl, n0, n1, I2.tok _, q⟩
theorem pe_lenO {E : St → XK} {p pos : Pos} {e : Expr} {t : TA} (m : Meth X.K C "__len__" f) (F : FnOk X.prog X.w X.K X.mg X.base CX k f fd ps sp) (hr : Room (k + 1) X.A) (hb : Binds X.K fd ps []) (hx : ∀ σ, PassesAt CX X σ (E σ))
    (hg : Gl X "len") (hm : X.mg "len" = none) (ha : PA X [e] t) (he : starEach [e] X.env = [(false, eval e X.env)] := by rfl) : PE X (.Call (.Name "len" p) [e] [] pos) (tLenO C sp E t) := by
  constructor
  intro pins s σ H Q I h
  refine wpAny_Call_Name_kw (ld_blt I hg hm (by decide +kernel : bootBuiltins "len" = some (.builtin "len")) ?_ (by decide) (by decide))
  refine PyProof.Rows.callWith_builtin1 (thn (ha.run pos pins s σ H _ I h) ?_) he rfl
  rintro us s1 ⟨vs, H1, I1, r1, a, dx, fs, rfl, ea, q⟩
  obtain rfl := Vals.ref1 r1
  refine thn (len_run m F hr rfl hb (hx σ) I1 ea q) ?_
  rintro u s2 ⟨n, t, H2, rfl, _, _, I2, q2⟩
  exact ⟨.int n, H2, I2, ⟨t, rfl⟩, q2⟩
/-- abs(o) by an own __abs__ -/
def tAbsO (C : Addr) (sp : Sp) (E : St → XK) (t : TA) : TE := fun σ H Q => t σ H fun vs H1 => ∃ a dx fs, vs = [.ref a] ∧ H1 a = some (.ins C dx fs) ∧ sp [.ref a] H1 Q (E σ)
theorem pe_absO {E : St → XK} {p pos : Pos} {e : Expr} {t : TA} (m : Meth X.K C "__abs__" f) (F : FnOk X.prog X.w X.K X.mg X.base CX k f fd ps sp) (hr : Room (k + 1) X.A) (hb : Binds X.K fd ps []) (hx : ∀ σ, PassesAt CX X σ (E σ))
    (hg : Gl X "abs") (hm : X.mg "abs" = none) (ha : PA X [e] t) (he : starEach [e] X.env = [(false, eval e X.env)] := by rfl) : PE X (.Call (.Name "abs" p) [e] [] pos) (tAbsO C sp E t) := by
  constructor
  intro pins s σ H Q I h
  refine wpAny_Call_Name_kw (ld_blt I hg hm (by decide +kernel : bootBuiltins "abs" = some (.builtin "abs")) ?_ (by decide) (by decide))
  refine PyProof.Rows.callWith_builtin1 (thn (ha.run pos pins s σ H _ I h) ?_) he rfl
  rintro us s1 ⟨vs, H1, I1, r1, a, dx, fs, rfl, ea, q⟩
  obtain rfl := Vals.ref1 r1
  obtain ⟨od, J⟩ := I1.instAt ea
  refine Calls.call_function_entry PyProof.Rows.kind_abs PyProof.Rows.plain_abs PyProof.Rows.entry_abs (PyProof.Rows.args_abs _) ?_
  unfold Builtin.«abs»
  refine wpAny_bind (m := oneArg "abs" _) (wpAny_pure ?_)
  refine wpAny_bind (m := callSpecial? (.ref a) (Str.ofString "__abs__")) (PySem.W.special_fn I1.kIn J m.at_ (beq_iff_eq.mp m.fn) (thn (run_one F hr.in1 rfl hb (hx σ) I1 q) fun u s2 hq => ?_))
  exact wpAny_pure ⟨_, rfl, hq⟩
/-- the walk of a list's iterator into the new list at q -/
theorem it_loop {A1 : Around} {l it q : Addr} {ys : List V} {R : Result → Shared → Prop} (hh : A1.handled = none) (ne1 : l ≠ it) (ne2 : l ≠ q) (ne3 : it ≠ q) {H0 : Hp}
    (hR : ∀ s H', Inv X pins σ H' s → (∀ b, b ≠ q → b ≠ it → H' b = H0 b) → H' q = some (.lst ys) → R (.ok (.ret .none)) s) :
    ∀ (n i : Nat) (H : Hp) (s : Shared), ys.length - i = n → i ≤ ys.length → Inv X pins σ H s → (∀ b, b ≠ q → b ≠ it → H b = H0 b) → H l = some (.lst ys) → H it = some (ItO l it i) → H q = some (.lst (ys.take i)) →
      codeAny (model X.prog X.w) A1 (.builtin "list.extend.loop" ⟨[.ref q, .ref it, .none], []⟩) R s := by
  intro n
  induction n with
  | zero =>
    intro i H s hn hi I same el ei eq
    have hi' : i = ys.length := by omega
    obtain ⟨its, rv, pl, hz⟩ := I.list (.of el)
    refine codeAny_builtin PySem.F.entry_extend_loop ?_
    rw [Around.under_plainId PySem.F.plain_extend_loop _]
    show wpAny (model X.prog X.w) A1.in1 (pyNext (.ref it) >>= _) _ _ s
    have ty : s.TypeIs (.ref it) "list_iterator" := ⟨_, itO_get I ei, rfl⟩
    refine wpAny_bind ?_
    unfold pyNext
    refine wpAny_bind (wpAny_attempt (wpAny_callSpecial?_slot (name := Str.ofString "__next__") ty slot_listiter_next (wpAny_call_entry slot_listiter_next ty entry_listiter_next ?_ (args_listiter_next _))))
    have nx : ys[i]? = none := List.getElem?_eq_none (by omega)
    refine wpAny_mono (GNX.next_end (Q := fun _ _ => False) (E := fun e s' => ∃ h1 h' e' vs, e = .ref e' ∧ h1.get? it = some (GNX.itEnd i) ∧ Heap.SameBut it s.heap h1 ∧ (∀ b o, h1.get? b = some o → h'.get? b = some o) ∧ h'.get? e' = some { cls := .type "StopIteration", data := .fields vs } ∧ s' = { s with heap := h' }) (A := A1.in1) hh (itO_get I ei) pl.isList (by rw [List.getElem?_toArray]; exact rv.none_of nx) fun h1 h' e vs e1 sb kp ne he hv => ⟨h1, h', e, vs, rfl, e1, sb, kp, he, rfl⟩) ?_ ?_
    · rintro r s' ⟨v, _, z⟩
      exact z.elim
    · rintro e s' ⟨h1, h', e', vs, rfl, e1, sb, kp, he, rfl⟩
      refine wpAny_bind (wpAny_isInstance (T := "StopIteration") (b := true) ⟨_, he, rfl⟩ isSubtype_stop ?_)
      refine wpAny_pure ?_
      refine wpAny_pure ?_
      have mu : Mut (H it) := by rw [ei]; exact True.intro
      have I2 : Inv X pins σ (upd H it (ItE it i)) { s with heap := h1 } := I.write (x := it) (e := it) (t' := s.toks) mu (.inl rfl) (fun b o nb z => (sb.2 b nb).trans z) ⟨_, e1⟩ (itE_ok e1)
      have I3 : Inv X pins σ (upd H it (ItE it i)) { s with heap := h' } := I2.kept (t' := s.toks) kp
      refine hR _ _ I3 (fun b b1 b2 => by rw [upd_ne b2]; exact same b b1 b2) ?_
      rw [upd_ne (Ne.symm ne3), eq, hi', List.take_length]
  | succ n ih =>
    intro i H s hn hi I same el ei eq
    have lt : i < ys.length := by omega
    obtain ⟨its, rv, pl, hz⟩ := I.list (.of el)
    obtain ⟨u, hu, ru⟩ := rv.get (List.getElem?_eq_getElem lt)
    refine codeAny_builtin PySem.F.entry_extend_loop ?_
    rw [Around.under_plainId PySem.F.plain_extend_loop _]
    show wpAny (model X.prog X.w) A1.in1 (pyNext (.ref it) >>= _) _ _ s
    have ty : s.TypeIs (.ref it) "list_iterator" := ⟨_, itO_get I ei, rfl⟩
    refine wpAny_bind ?_
    unfold pyNext
    refine wpAny_bind (wpAny_attempt (wpAny_callSpecial?_slot (name := Str.ofString "__next__") ty slot_listiter_next (wpAny_call_entry slot_listiter_next ty entry_listiter_next ?_ (args_listiter_next _))))
    refine GNX.next_item (itO_get I ei) pl.isList (by rw [List.getElem?_toArray]; exact hu) fun h' e' sb => wpAny_pure ?_
    have mu : Mut (H it) := by rw [ei]; exact True.intro
    have I2 : Inv X pins σ (upd H it (ItO l it (i + 1))) { s with heap := h' } := I.write (x := it) (e := it) (t' := s.toks) mu (.inl rfl) (fun b o nb z => (sb.2 b nb).trans z) ⟨_, e'⟩ (itO_ok e')
    show wpAny (model X.prog X.w) A1.in1 (updateSeq q (·.push u) >>= _) _ _ _
    have eq2 : upd H it (ItO l it (i + 1)) q = some (.lst (ys.take i)) := by rw [upd_ne (Ne.symm ne3)]; exact eq
    obtain ⟨z, us, c, r2, hl, e⟩ := I2.lstM eq2
    refine wpAny_bind (wpAny_updateSeq e rfl (wpAny_pure ⟨plainId_quiet PySem.F.plain_extend_loop _, ?_⟩) (by rw [List.size_toArray]; omega) (by show (us.toArray.push u).size ≤ sizeLine + 1; rw [Array.size_push, List.size_toArray]; omega))
    have tk : ys.take (i + 1) = ys.take i ++ [ys[i]] := (List.take_succ_eq_append_getElem lt)
    have I3 := I2.lset (its' := us ++ [u]) (ys := ys.take (i + 1)) (f := (·.push u)) (t' := s.toks) eq2 e (by simp) (by rw [tk]; exact r2.append (.cons ru .nil)) (by rw [List.length_take]; omega)
    refine ih (i + 1) _ _ (by omega) lt I3 (fun b b1 b2 => by rw [upd_ne b1, upd_ne b2]; exact same b b1 b2) ?_ ?_ upd_same
    · rw [upd_ne ne2, upd_ne ne1]; exact el
    · rw [upd_ne ne3, upd_same]
/-- what lets nothing out -/
def Shut (CX : CXT) : Prop := ∀ outer H s e s', CX outer H s (fun _ _ _ => False) e s' → False
theorem shut_CX {P : Program} {w : World} : Shut (L2.CX P w) := fun _ _ _ _ _ ⟨_, _, _, _, _, _, _, _, _, _, _, _, z⟩ => z
theorem run_shut {A' : Around} {Q : VK} {E1 : Value → Shared → Prop} (F : FnOk X.prog X.w X.K X.mg X.base CX k f fd ps sp) (hr : Room k A') (hfr : A'.frames = X.A.frames) (hb : Binds X.K fd ps []) (hx : Shut CX) (I : Inv X pins σ H s) (h : sp [.ref a] H Q (fun _ _ _ => False)) :
    wpAny (model X.prog X.w) A' (call (.ref f) [.ref a]) (EP X pins σ Q) E1 s := by
  have e0 := I.env0
  have e1 : Env0 X.prog X.w X.K X.mg X.base A' X.stack s H := ⟨hfr.trans e0.frames, e0.mod, e0.bs, e0.bsz, e0.funs, e0.frf, e0.hok, e0.bare⟩
  have rr : Vals [V.ref a] [Value.ref a] := .cons rfl .nil
  refine wpAny_call (codeAny_mono (F.run A' X.stack s H ⟨[.ref a], []⟩ [.ref a] [.ref a] Q _ hr e1 (by simpa using hb s [.ref a] I.kIn (by have := F.len _ _ _ _ h; simpa using this)) rr h) ?_)
  intro res s' hq
  match res, hq with
  | .error e, hq => exact (hx _ _ _ _ _ hq).elim
  | .ok (.ret u), hq => exact I.after hq
  | .ok .next, hq => exact hq.elim
  | .ok .brk, hq => exact hq.elim
  | .ok .cont, hq => exact hq.elim
theorem len_shut {A' : Around} {P : Int → Hp → Prop} {E1 : Value → Shared → Prop} (m : Meth X.K C "__len__" f) (F : FnOk X.prog X.w X.K X.mg X.base CX k f fd ps sp) (hr : Room (k + 1) A') (hfr : A'.frames = X.A.frames) (hb : Binds X.K fd ps []) (hx : Shut CX) (I : Inv X pins σ H s) (ea : H a = some (.ins C dx fs))
    (h : sp [.ref a] H (fun v H' => ∃ n : Int, v = .int n ∧ 0 ≤ n ∧ n < 1000000 ∧ P n H') (fun _ _ _ => False)) : wpAny (model X.prog X.w) A' (call (.builtin "len") [.ref a]) (fun u s' => ∃ n t H', u = .int n t ∧ 0 ≤ n ∧ n < 1000000 ∧ Inv X pins σ H' s' ∧ P n H') E1 s := by
  obtain ⟨od, J⟩ := I.instAt ea
  obtain ⟨m0, hF⟩ := I.fr
  refine PySem.W.len_K hF I.ok.mod.kin J m.at_ m.fn (thn (run_shut F hr.in1 hfr hb hx I h) ?_)
  rintro u s2 ⟨x, H2, I2, rx, n, rfl, n0, n1, q⟩
  obtain ⟨t, rfl⟩ := rx
  exact ⟨⟨n0, by omega⟩, n, _, H2, rfl, n0, n1, I2.tok _, q⟩
/-- list(o): o's __iter__ gives a list's iterator, its __len__ a number -/
def rListO (C : Addr) (spI spL : Sp) (E : St → XK) (σ : St) : List V → Hp → VK → Prop := fun xs H Q => ∃ a dx fs, xs = [.ref a] ∧ H a = some (.ins C dx fs) ∧ ∀ q, H q = none →
  spI [.ref a] (upd H q (.lst [])) (fun v H1 => ∃ l it ys dx1 fs1, v = .ref it ∧ H1 a = some (.ins C dx1 fs1) ∧ H1 it = some (ItO l it 0) ∧
    spL [.ref a] H1 (fun m H2 => ∃ i : Int, m = .int i ∧ 0 ≤ i ∧ i < 1000000 ∧ H2 l = some (.lst ys) ∧ H2 it = some (ItO l it 0) ∧ H2 q = some (.lst []) ∧ l ≠ q ∧
      ∀ H', (∀ b, b ≠ q → b ≠ it → H' b = H2 b) → H' q = some (.lst ys) → Q (.ref q) H') (fun _ _ _ => False)) (E σ)
def tListO (C : Addr) (spI spL : Sp) (E : St → XK) (t : TA) : TE := fun σ H Q => t σ H fun vs H1 => rListO C spI spL E σ vs H1 Q
theorem pe_listO {E : St → XK} {p pos : Pos} {e : Expr} {t : TA} (mi : Meth X.K C "__iter__" f) (ml : Meth X.K C "__len__" f2) (FI : FnOk X.prog X.w X.K X.mg X.base CX k f fd ps sp) (FL : FnOk X.prog X.w X.K X.mg X.base CX2 k2 f2 fd2 ps2 sp2) (hr : Room (k + 2) X.A) (hr2 : Room (k2 + 3) X.A) (hb : Binds X.K fd ps []) (hb2 : Binds X.K fd2 ps2 [])
    (hx : ∀ σ, PassesAt CX X σ (E σ)) (hx2 : Shut CX2) (hc : X.calm = true) (hg : Gl X "list") (hm : X.mg "list" = none) (ha : PA X [e] t) (he : starEach [e] X.env = [(false, eval e X.env)] := by rfl) : PE X (.Call (.Name "list" p) [e] [] pos) (tListO C sp sp2 E t) := by
  constructor
  intro pins s σ H Q I h
  refine wpAny_Call_Name_kw (ld_blt I hg hm boot_list ?_ (by decide) (by decide))
  refine PyProof.Rows.callWith_type1 (thn (ha.run pos pins s σ H _ I h) ?_) he rfl
  rintro us s1 ⟨vs, H1, I1, r1, a, dx, fs, rfl, ea, fin⟩
  obtain rfl := Vals.ref1 r1
  have hh : X.A.handled = none := I1.ok.hd hc
  refine callType_codes (Q₁ := fun obj t => obj = .ref s1.heap.objs.size ∧ t = { s1 with heap := s1.heap.push { cls := .type "list", data := .seq #[] } }) PySem.F.called_list (PySem.F.typeCall_list_1 _) PySem.F.entry_list_init
    (code_list_new _ ⟨rfl, rfl⟩) fun obj t ht => ?_
  obtain ⟨rfl, rfl⟩ := ht
  have hL : (s1.heap.push { cls := .type "list", data := .seq #[] }).get? s1.heap.objs.size = some { cls := .type "list", data := .seq #[] } := Heap.get?_push_size _ rfl
  refine ⟨⟨_, hL, rfl⟩, PySem.F.args_list_init_2 _ _, ?_⟩
  have fr : H1 s1.heap.objs.size = none := I1.hok.fresh (Nat.le_refl _)
  have q0 := fin _ fr
  have I2 : Inv X pins σ (upd H1 s1.heap.objs.size (.lst [])) { s1 with heap := s1.heap.push { cls := .type "list", data := .seq #[] } } := I1.lnew (its := []) (t' := s1.toks) .nil (Nat.zero_le _)
  have ea2 : upd H1 s1.heap.objs.size (.lst []) a = some (.ins C dx fs) := by rw [upd_ne (ne_of_none ea fr)]; exact ea
  have aL : s1.heap.objs.size ≠ a := (ne_of_none ea fr).symm
  generalize s1.heap.objs.size = L at *
  show wpAny (model X.prog X.w) X.A.in1.in1 (do let old ← Builtin.List.listItems (.ref L); Builtin.List.listUpdate (.ref L) (fun _ => #[]); letGo old.toList.reverse; Builtin.List.listExtendWith (.ref L) (.ref a) .none) _ _ _
  refine wpAny_bind ?_
  unfold Builtin.List.listItems
  refine wpAny_bind (wpAny_seqItems hL rfl (wpAny_pure ?_))
  show wpAny (model X.prog X.w) X.A.in1.in1 (updateSeq L (fun _ => #[]) >>= fun _ => letGo (#[] : Array Value).toList.reverse >>= fun _ => Builtin.List.listExtendWith (.ref L) (.ref a) .none) _ _ _
  refine wpAny_bind (wpAny_updateSeq hL rfl ?_)
  have I3 := I2.lset (f := fun _ => #[]) (its := []) (its' := []) (ys := []) (t' := s1.toks) upd_same hL rfl .nil (Nat.zero_le _)
  rw [upd_upd] at I3
  refine wpAny_bind (wpAny_letGo ?_)
  obtain ⟨od, J⟩ := I3.instAt ea2
  obtain ⟨m0, hF⟩ := I3.fr
  unfold Builtin.List.listExtendWith
  refine wpAny_bind (J.type.here ?_)
  have r1 : Builtin.List.listSameRef (.ref L) (.ref a) = false := by simp [Builtin.List.listSameRef, aL]
  have r2 : (Value.ref C == Value.type "list") = false := rfl
  have r3 : (Value.ref C == Value.type "tuple") = false := rfl
  simp only [r1, r2, r3, Bool.or_false, Bool.false_eq_true, if_false]
  refine wpAny_bind (PySem.W.owit_iter hF I3.ok.mod.kin J mi.at_ mi.fn ?_)

  refine thn (run_one (E := E σ) FI hr.in1.in1 rfl hb (hx σ) I3 q0) ?_
  rintro u s4 ⟨v, H4, I4, rv, l, it, ys, dx1, fs1, rfl, ea4, eit, q4⟩
  cases rv
  unfold PySem.W.OwitIt
  have ty4 : s4.TypeIs (.ref it) "list_iterator" := ⟨_, itO_get I4 eit, rfl⟩
  refine wpAny_specialOf ty4 slot_listiter_next.lookup ?_
  dsimp only
  obtain ⟨od4, J4⟩ := I4.instAt ea4
  refine wpAny_bind (wpAny_holding ?_)
  unfold Builtin.List.listLengthHint
  refine wpAny_bind (wpAny_bind (J4.type.here ((PySem.W.looks_findIn I4.kIn ml.at_).here ?_)))
  refine PySem.W.KFB.if_not rfl ?_
  refine wpAny_ite_split (fun _ => ?_) (fun z => absurd rfl z)
  refine wpAny_bind (wpAny_rule ?_)
  refine wpAny_bind (wpAny_attempt (wpAny_mono (len_shut (E1 := fun _ _ => False) ml FL hr2.in1.in1 rfl hb2 hx2 I4 ea4 q4) ?_ fun _ _ z => z.elim))
  · rintro u s5 ⟨n, t, H5, rfl, n0, n1, I5, el, eit5, eL, nlL, q5⟩
    refine wpAny_bind (m := asInt? (.int n t)) (wpAny_pure ?_)
    dsimp only
    have small : Builtin.List.listTooLong n.toNat = false := notLongL (by rw [sizeLine_eq]; omega)
    rw [small]
    simp only [Bool.false_eq_true, if_false]
    refine wpAny_pure ?_
    obtain ⟨z, its, c, r3, hl3, e3⟩ := I5.lstM eL
    cases r3
    have n1 : l ≠ it := ne_of el eit5 (fun z => nomatch z)
    have n3 : it ≠ L := ne_of eit5 eL (fun z => nomatch z)
    have go : ∀ s' H', Inv X pins σ H' s' → H' = H5 → codeAny (model X.prog X.w) X.A.in1 (.builtin "list.extend.loop" ⟨[.ref L, .ref it, .none], []⟩) (wants (fun r s₂ => r = .none ∧ EP X pins σ Q (.ref L) s₂) X.xe) s' := fun s' H' I' eH => by
      subst eH
      exact it_loop (A1 := X.A.in1) (R := wants (fun r s₂ => r = .none ∧ EP X pins σ Q (.ref L) s₂) X.xe) (H0 := H') hh n1 nlL n3 (fun s'' H'' I'' same eq => ⟨rfl, .ref L, H'', I'', rfl, q5 H'' same eq⟩) ys.length 0 H' s' (Nat.sub_zero _) (Nat.zero_le _) I' (fun _ _ _ => rfl) el eit5 eL
    refine wpAny_ite_split (fun _ => ?_) (fun _ => wpAny_pure ⟨plainId_quiet PySem.F.plain_extend_loop _, go _ _ I5 rfl⟩)
    refine wpAny_bind (wpAny_rule (wpAny_bind ?_))
    show wpAny (model X.prog X.w) X.A.in1.in1 (updateSeq L (·.push .none) >>= fun _ => updateSeq L (·.pop)) _ _ _
    refine wpAny_bind (wpAny_updateSeq e3 rfl ?_)
    have I6 := I5.lset (f := (·.push Value.none)) (its' := [Value.none]) (ys := [.non]) (t' := s5.toks) eL e3 (by simp) (.cons rfl .nil) (by rw [List.length_singleton, sizeLine_eq]; decide)
    obtain ⟨z4, its4, c4, r4, hl4, e4⟩ := I6.lstM upd_same
    obtain ⟨u4, rfl, ru4⟩ := r4.one
    refine wpAny_updateSeq e4 rfl ?_ (by show 1 ≤ sizeLine; rw [sizeLine_eq]; decide) (by show 0 ≤ sizeLine + 1; exact Nat.zero_le _)
    have I7 := I6.lset (f := (·.pop)) (its := [u4]) (its' := []) (ys := []) (t' := s5.toks) upd_same e4 (by rfl) .nil (Nat.zero_le _)
    rw [upd_upd] at I7
    refine wpAny_pure ⟨plainId_quiet PySem.F.plain_extend_loop _, go _ _ I7 ?_⟩
    funext b
    by_cases hb : b = L
    · rw [hb, upd_same, eL]
    · rw [upd_ne hb]
end
end L2

/-! Facts for isinstance; code that is not reached; some more built-ins. -/
namespace Rz
open PySem PySem.Spec PyProof.Rows L2 He
def tyB (C : Str) : Fg → Bool := fun K => (Fa.cls C).ok K && (eqO (PySem.W.findIn K (.ref (ga K C)) "__class__") (some (some (.builtin "object.__class__"))) && (eqO (PySem.W.specialIn K (.builtin "object.__class__") "__get__") (some (some (.builtin "getset_descriptor.__get__"))) &&
  (decide (PySem.W.takesIn K (.builtin "object.__class__") = some true) && decide (PySem.W.mroIn K (ga K C) (.type "object") = some true))))
theorem tyB_ok {C : Str} {K : Fg} (h : tyB C K = true) : C8.InsC K (ga K C) := by
  obtain ⟨h0, h⟩ := ba h
  obtain ⟨h1, h⟩ := ba h
  obtain ⟨h2, h⟩ := ba h
  obtain ⟨h3, h4⟩ := ba h
  exact ⟨cls_ok h0, eqO_ok h1, eqO_ok h2, of_decide_eq_true h3, of_decide_eq_true h4, by unfold PySem.W.kitOne; simp⟩
/-- isinstance of an instance of C (a value of the built-in type T), asked for the built-in type U (the class D) -/
def kitCT (C : Str) (U : String) (r : Bool) : Fg → Bool := fun K => decide (PySem.W.kitOne K (.ref (ga K C)) (.type U) = some r)
def kitTC (T : String) (D : Str) (r : Bool) : Fg → Bool := fun K => decide (PySem.W.kitOne K (.type T) (.ref (ga K D)) = some r)
def kitCC (C D : Str) (r : Bool) : Fg → Bool := fun K => decide (PySem.W.kitOne K (.ref (ga K C)) (.ref (ga K D)) = some r)
theorem tyX_own {K : Fg} {C a dx : Addr} {fs : List (Str × V)} {H : Hp} (c : C8.InsC K C) (ea : H a = some (.ins C dx fs)) : TyX K H (.ref a) (.ref C) := .base (.ins ea c.cl c.ha c.hn c.htk c.hm)
end Rz
namespace L2
open PySem PySem.Spec PyProof.Rows
section
variable {X : Cx}
/-- what is never reached -/
def tDeadE : TE := fun _ _ _ => False
def tDead : TS := fun _ _ _ => False
theorem pe_dead {e : Expr} : PE X e tDeadE := ⟨fun _ _ _ _ _ _ z => z.elim⟩
theorem ps_dead {st : Stmt} : PS X st tDead := ⟨fun _ _ _ _ _ _ z => z.elim⟩
theorem pss_dead {st : List Stmt} : PSs X st tDead := ⟨fun _ _ _ _ _ _ z => z.elim⟩
def rMaxA (K : Frg) : List V → Hp → VK → Prop := rMax K
def rMinA (K : Frg) : List V → Hp → VK → Prop := rMin K
theorem c_max (hc : X.calm = true) : CallR X (.builtin "max") (rMaxA X.K) := cr_max hc
theorem c_min (hc : X.calm = true) : CallR X (.builtin "min") (rMinA X.K) := cr_min hc
def rAnyA (K : Frg) : List V → Hp → VK → Prop := rAny K
theorem c_any (hc : X.calm = true) : CallR X (.builtin "any") (rAnyA X.K) := cr_any hc
def rIterA (K : Frg) : List V → Hp → VK → Prop := rIter K
theorem c_iter : CallR X (.builtin "iter") (rIterA X.K) := call_iterL
def rInsertA : V → List V → Hp → VK → Prop := fun x vs H Q => ∃ (l : Addr) (xs : List V) (i : Int) (y : V), x = .ref l ∧ vs = [.int i, y] ∧ H l = some (.lst xs) ∧ xs.length < sizeLine ∧ 0 ≤ i ∧ i < 2 ^ 63 ∧ Q .non (upd H l (.lst (xs.take i.toNat ++ [y] ++ xs.drop i.toNat)))
theorem mt_insertA : MtR X "list.insert" rInsertA := mt_insert
end
end L2

/-! Operators, subscripts and slices over instances of the program's own classes. -/
namespace PySem.W
open PySem PySem.Calls PyProof.Rows Builtin
section
variable {prog : Program} {w : World} {A : Around} {E : Value → Shared → Prop} {s : Shared} {K : Frag} {x C L f : Addr} {h₀ : Heap} {m : Str → Option Value} {ox : Obj} {od : Option Obj}
theorem notImpl_of_CmpBack {Q : Value → Shared → Prop} {v : Value} {s' : Shared} (hv : v ≠ .notImplemented) (h : Q v s') : CmpBack Q v s' := by
  cases v <;> first | exact absurd rfl hv | exact h
/-- o[i:j] -/
theorem sub_KS {value : Expr} {lo hi : Option Expr} {p : Pos} {i : Value} {Q : Value → Shared → Prop} (F : Fr h₀ L s.heap m) (X₀ : K.In h₀) (I : InstAt s.heap x ox C od) (hs : findIn K (.ref C) "__getitem__" = some (some (.ref f))) (hf : fnIn K f = true) (hfn : isFn K (.ref f) = true) (hq : noSeq K C = true)
    (h : wpAny (model prog w) A (call (.ref f) [.ref x, i]) Q E s) :
    wpAny (model prog w) A (subscriptTail value (.Slice lo hi none p) (.ref x) i) Q E s := by
  have X := X₀.keeps F.keep
  unfold fnIn at hf
  split at hf
  · rename_i e
    unfold subscriptTail getitemInPython
    refine wpAny_bind (wpAny_bind (wpAny_bind (I.type.here ((looks_findIn X hs).here ?_))))
    dsimp only
    refine wpAny_bind (wpAny_load (X _ _ e) (wpAny_pure ?_))
    dsimp only
    show wpAny (model prog w) A (operate [i, .ref x] (getItem (.ref x) i) >>= _) Q E s
    refine wpAny_bind (wpAny_operate' (getItem_K F X₀ I hq hs hfn (wpAny_mono h (fun v s' z => ?_) fun _ _ z => z)))
    show wpAny (model prog w) A (letTemporaryGo value (.ref x) v >>= fun _ => pure v) Q E s'
    exact wpAny_bind (wpAny_letTemporaryGo (wpAny_pure z))
  · cases hf
/-- i * o of an int and an instance by its own __rmul__ -/
theorem rmul_K {i : Int} {t : Tok} {Q : Value → Shared → Prop} (np : ∀ v, ox.data ≠ .prim v) (F : Fr h₀ L s.heap m) (X₀ : K.In h₀) (I : InstAt s.heap x ox C od) (hc : selfFirst K C = true)
    (hs : findIn K (.ref C) "__rmul__" = some (some (.ref f))) (hl : findIn K (.ref C) "__mul__" = some none) (hf : isFn K (.ref f) = true)
    (hsub : subIn K (.ref C) (.type "int") = some false)
    (h : wpAny (model prog w) A (call (.ref f) [.ref x, .int i t]) (CmpBack Q) E s) : wpAny (model prog w) A (binaryOp .Mult (.int i t) (.ref x)) Q E s := by
  have X := X₀.keeps F.keep
  obtain ⟨cd, rest, hcd, hm⟩ := ksp_first hc
  have one := ksp_try (A := A) X I hs hf h
  obtain ⟨hh, g, d, tt, os⟩ := s
  have L1 : Looks (model prog w) hh (typeOf (.ref x)) (.ref C) := I.type
  have L3 : Looks (model prog w) hh (fillsNumberSlot (.ref C) "mul") true := by
    intro A Q E s k q
    have Xs := X.keeps k
    unfold fillsNumberSlot
    refine wpAny_bind ((looks_clsIn X hcd).andThen (f := fun cd => pure cd.mro) .now A _ E s k ?_)
    rw [hm, List.anyM_cons]
    refine wpAny_bind ?_
    show wpAny _ A (List.anyM _ [PySem.dunder "mul", dunderR "mul"]) _ _ _
    rw [List.anyM_cons]
    refine wpAny_bind (wpAny_bind (looks_findIn X (show findIn K (.ref C) (PySem.dunder "mul") = some none from hl) A _ E s k ?_))
    dsimp only
    refine wpAny_pure ?_
    simp only [Bool.false_eq_true, if_false]
    rw [List.anyM_cons]
    refine wpAny_bind (wpAny_bind (looks_findIn X (show findIn K (.ref C) (dunderR "mul") = some (some (.ref f)) from hs) A _ E s k ?_))
    dsimp only
    rw [if_pos (show (!ownNameWrapper (.ref f) (dunderR "mul")) = true from rfl)]
    refine wpAny_pure ?_
    rw [if_pos rfl]
    refine wpAny_pure ?_
    rw [if_pos rfl]
    exact wpAny_pure q
  have L2 : Looks (model prog w) hh (typeOf (.int i t)) (.type "int") := Looks.of_pure rfl
  have L4 : Looks (model prog w) hh (fillsNumberSlot (.type "int") "mul") true := Looks.of_pure PySem.F.fills_int_mul
  have L5 : Looks (model prog w) hh (isSubtype (.ref C) (.type "int")) false := looks_subIn X hsub
  have L6 : Looks (model prog w) hh (numberSlotInPython (.type "int") "mul") false := Looks.of_pure rfl
  have hne : (Value.type "int" == Value.ref C) = false := Bool.eq_false_iff.mpr fun q => by cases beq_iff_eq.mp q
  simp only [binaryOp, Operator.info]
  refine wpAny_holding (wpAny_bind ?_)
  unfold binaryOp1
  refine wpAny_bind (L2.at (wpAny_bind (L1.at (wpAny_bind (L4.at ?_)))))
  simp only [hne, Bool.false_eq_true, if_false]
  refine wpAny_bind (L3.at ?_)
  simp only [Bool.and_self, if_true]
  refine wpAny_bind (L5.at ?_)
  simp only [Bool.false_eq_true, if_false]
  refine wpAny_bind (L6.at ?_)
  simp only [Bool.false_eq_true, if_false]
  refine wpAny_bind (wpAny_mono (Q := fun r s' => r = none ∧ s' = ⟨hh, g, d, tt, os⟩) ?one ?two fun _ _ e => e)
  case one =>
    unfold tryMethod
    refine wpAny_bind (wpAny_callSpecial?_slot (s := ⟨hh, g, d, tt, os⟩) (typeIs_int _ i t) PySem.F.slot_int_mul (wpAny_call_entry PySem.F.slot_int_mul (typeIs_int _ i t) PySem.F.entry_int_mul ?_ (PySem.F.args_int_mul_2 _ _)))
    have e : (⟨hh, g, d, tt, os⟩ : Shared).heap.get? x = some ox := I.at_
    have fin : wpAny (model prog w) A.in1 (asInt? (.ref x)) (fun r s' => r = none ∧ s' = ⟨hh, g, d, tt, os⟩) E ⟨hh, g, d, tt, os⟩ := by
      unfold asInt?
      refine wpAny_bind (wpAny_load e ?_)
      cases q : ox.data with
      | prim v => exact absurd q (np v)
      | _ => exact wpAny_pure ⟨rfl, rfl⟩
    show wpAny (model prog w) A.in1 (asInt? (.ref x) >>= _) _ _ _
    refine wpAny_bind (wpAny_mono fin ?_ fun _ _ z => z)
    rintro r s' ⟨rfl, rfl⟩
    refine wpAny_bind (wpAny_rule ?_)
    exact wpAny_pure ⟨_, rfl, wpAny_pure ⟨rfl, rfl⟩⟩
  case two =>
    rintro r s' ⟨rfl, rfl⟩
    ksp_lk
    refine wpAny_mono one (fun r s' hr' => ?_) fun _ _ e => e
    obtain ⟨v, rfl, hq⟩ := hr'
    ksp_lk
    exact hq
end
end PySem.W
namespace L2
open PySem PySem.Spec PyProof.Rows
/-- a slice object with two ints -/
def Sli (a : Addr) (i j : Int) : HO := .ext fun h => ∃ t u, h.get? a = some { cls := .type "slice", data := .fields #[.int i t, .int j u, .none] }
/-- what a class has for its operators -/
structure OpC (K : PySem.W.Frag) (C : Addr) : Prop where
  first : PySem.W.selfFirst K C = true
  noseq : PySem.W.noSeq K C = true
section
variable {X : Cx} {CX : CXT} {k : Nat} {f C a dx : Addr} {fs : List (Str × V)} {fd : FuncData} {ps : List Str} {sp : Sp} {pins : List (Addr × Obj)} {σ : St} {H : Hp} {s : Shared} {pos : Pos} {e1 e2 e3 : Expr} {t1 t2 t3 : TE}
theorem rel_ni {x : V} {v : Value} (r : RelV x v) : v ≠ .notImplemented := by
  cases x with
  | non => intro e; rw [show v = Value.none from r] at e; cases e
  | bl b => intro e; rw [show v = Value.bool b from r] at e; cases e
  | int i => obtain ⟨t, rfl⟩ := r; intro e; cases e
  | str i => obtain ⟨t, rfl⟩ := r; intro e; cases e
  | byt i => obtain ⟨t, rfl⟩ := r; intro e; cases e
  | flt i => obtain ⟨t, rfl⟩ := r; intro e; cases e
  | ref i => intro e; rw [show v = Value.ref i from r] at e; cases e
  | ty i => intro e; rw [show v = Value.type i from r] at e; cases e
theorem EP.back {Q : VK} {v : Value} {s' : Shared} (h : EP X pins σ Q v s') : PySem.W.CmpBack (EP X pins σ Q) v s' := by
  obtain ⟨x, H', I, r, q⟩ := h
  exact PySem.W.notImpl_of_CmpBack (rel_ni r) ⟨x, H', I, r, q⟩
/-- a def of two arguments runs within an operator -/
theorem run_two {A' : Around} {Q : VK} {E : XK} {y : V} {u : Value} (F : FnOk X.prog X.w X.K X.mg X.base CX k f fd ps sp) (hr : Room k A') (hfr : A'.frames = X.A.frames) (hb : Binds X.K fd ps []) (hx : PassesAt CX X σ E) (I : Inv X pins σ H s) (ry : RelV y u) (h : sp [.ref a, y] H Q E) :
    wpAny (model X.prog X.w) A' (call (.ref f) [.ref a, u]) (EP X pins σ Q) X.xe s := run_in (vs := [.ref a, y]) (dvs := []) (ds := []) F hr hfr hb .nil hx I (.cons rfl (.cons ry .nil)) (by simpa using h)
def tOwn (C : Addr) (sp : Sp) (E : St → XK) (P : V → Hp → Prop) (ta tb : TE) : TE := fun σ H Q => ta σ H fun x H1 => tb σ H1 fun y H2 => ∃ a dx fs, x = .ref a ∧ H2 a = some (.ins C dx fs) ∧ P y H2 ∧ sp [.ref a, y] H2 Q (E σ)
def isIns (C : Addr) : V → Hp → Prop := fun y H => ∃ b dx fs, y = .ref b ∧ H b = some (.ins C dx fs)
def anyV : V → Hp → Prop := fun _ _ => True
def isIntV : V → Hp → Prop := fun y _ => ∃ i, y = .int i
/-- o + q of two instances of one class -/
theorem pe_addO {op : Operator} {E : St → XK} (m : Meth X.K C (PySem.dunder op.info.2) f) (c : OpC X.K C) (F : FnOk X.prog X.w X.K X.mg X.base CX k f fd ps sp) (hr : Room k X.A) (hb : Binds X.K fd ps []) (hx : ∀ σ, PassesAt CX X σ (E σ))
    (ha : PE X e1 t1) (hb2 : PE X e2 t2) : PE X (.BinOp e1 op e2 pos) (tOwn C sp E (isIns C) t1 t2) := by
  refine ⟨fun pins s σ H Q I h => wpAny_BinOp (binT ha hb2 I h fun v u s2 x y H2 I2 rx ry q => ?_)⟩
  obtain ⟨a, dx, fs, rfl, ea, ⟨b, dx2, fs2, rfl, eb⟩, q⟩ := q
  cases rx
  cases ry
  obtain ⟨od, J⟩ := I2.instAt ea
  obtain ⟨od2, J2⟩ := I2.instAt eb
  obtain ⟨m0, hF⟩ := I2.fr
  exact PySem.W.binop_K hF I2.ok.mod.kin J J2.type c.first m.at_ m.fn (thn (run_two (y := .ref b) F hr rfl hb (hx σ) I2 rfl q) fun _ _ z => z.back)
/-- x in o -/
def tInO (C : Addr) (sp : Sp) (E : St → XK) (ta tb : TE) : TE := fun σ H Q => ta σ H fun x H1 => tb σ H1 fun y H2 => ∃ a dx fs, y = .ref a ∧ H2 a = some (.ins C dx fs) ∧ sp [.ref a, x] H2 (fun v H' => ∃ b, v = .bl b ∧ Q (.bl b) H') (E σ)
theorem in_run {E : St → XK} {x : V} {u : Value} {Q : VK} (m : Meth X.K C "__contains__" f) (F : FnOk X.prog X.w X.K X.mg X.base CX k f fd ps sp) (hr : Room k X.A) (hb : Binds X.K fd ps []) (hx : ∀ σ, PassesAt CX X σ (E σ)) (I2 : Inv X pins σ H s) (rx : RelV x u) (ea : H a = some (.ins C dx fs))
    (q : sp [.ref a, x] H (fun v H' => ∃ b, v = .bl b ∧ Q (.bl b) H') (E σ)) : wpAny (model X.prog X.w) X.A (compareOp .In u (.ref a)) (EP X pins σ Q) X.xe s := by
  obtain ⟨od, J⟩ := I2.instAt ea
  obtain ⟨m0, hF⟩ := I2.fr
  refine PySem.W.in_K hF I2.ok.mod.kin J m.at_ m.fn (thn (run_two F hr rfl hb (hx σ) I2 rx q) ?_)
  rintro v s3 ⟨z, H3, I3, rz, b, rfl, q3⟩
  cases rz
  exact wpAny_truthy_bool ⟨.bl b, H3, I3, rfl, q3⟩
theorem pe_inO {E : St → XK} (m : Meth X.K C "__contains__" f) (F : FnOk X.prog X.w X.K X.mg X.base CX k f fd ps sp) (hr : Room k X.A) (hb : Binds X.K fd ps []) (hx : ∀ σ, PassesAt CX X σ (E σ))
    (ha : PE X e1 t1) (hb2 : PE X e2 t2) (hm : behindInMarks .In e2 = false) : PE X (.Compare e1 [.In] [e2] pos) (tInO C sp E t1 t2) := by
  refine ⟨fun pins s σ H Q I h => wpAny_Compare1 (binT ha hb2 I h fun v u s2 x y H2 I2 rx ry q => ?_) hm⟩
  obtain ⟨a, dx, fs, rfl, ea, q⟩ := q
  cases ry
  exact in_run m F hr hb hx I2 rx ea q
/-- o[i] by an own __getitem__ -/
theorem pe_getO {E : St → XK} (m : Meth X.K C "__getitem__" f) (hf : PySem.W.fnIn X.K f = true) (F : FnOk X.prog X.w X.K X.mg X.base CX k f fd ps sp) (hr : Room (k + 1) X.A) (hb : Binds X.K fd ps []) (hx : ∀ σ, PassesAt CX X σ (E σ))
    (ha : PE X e1 t1) (hb2 : PE X e2 t2) (hs : ∀ o i, subscripted e2 true o i = runValue (.builtin "lifetime.subscript" ⟨[o, i], []⟩)) : PE X (.Subscript e1 e2 pos) (tOwn C sp E anyV t1 t2) := by
  refine ⟨fun pins s σ H Q I h => Subscript_ (binT ha hb2 I h fun v u s2 x y H2 I2 rx ry q => ?_)⟩
  obtain ⟨a, dx, fs, rfl, ea, _, q⟩ := q
  cases rx
  obtain ⟨od, J⟩ := I2.instAt ea
  obtain ⟨m0, hF⟩ := I2.fr
  exact PySem.W.sub_K hF I2.ok.mod.kin J m.at_ hf m.fn (run_two F hr.in1 rfl hb (hx σ) I2 ry q) (hs _ _)
/-- i:j in a subscript -/
def tSli (ta tb : TE) : TE := fun σ H Q => ta σ H fun x H1 => tb σ H1 fun y H2 => ∃ i j, x = .int i ∧ y = .int j ∧ ∀ p, H2 p = none → Q (.ref p) (upd H2 p (Sli p i j))
theorem pe_sli {p2 : Pos} (ha : PE X e1 t1) (hb2 : PE X e2 t2) : PE X (.Slice (some e1) (some e2) none p2) (tSli t1 t2) := by
  refine ⟨fun pins s σ H Q I h => ?_⟩
  refine wpAny_Slice (thn (ha.run pins s σ H _ I h) fun vl s2 ⟨x, H2, I2, r1, q2⟩ => thn (hb2.run pins s2 σ H2 _ I2 q2) fun vu s3 ⟨y, H3, I3, r2, q3⟩ => ?_)
  obtain ⟨i, j, rfl, rfl, q⟩ := q3
  obtain ⟨t, rfl⟩ := r1
  obtain ⟨u, rfl⟩ := r2
  rw [evalPart_none]
  refine wpAny_pure ?_
  have fr : H3 s3.heap.objs.size = none := I3.hok.fresh (Nat.le_refl _)
  have I4 : Inv X pins σ (upd H3 s3.heap.objs.size (Sli s3.heap.objs.size i j)) { s3 with heap := s3.heap.push { cls := .type "slice", data := .fields #[.int i t, .int j u, .none] } } :=
    I3.laid (t' := s3.toks) (fun _ _ q => Heap.get?_push_of_some _ q) (Nat.le_refl _) ⟨⟨t, u, Heap.get?_push_size _ rfl⟩, ⟨_, Heap.get?_push_size _ rfl⟩, fun h1 h2 z k => let ⟨t, u, e⟩ := z; ⟨t, u, k _ e⟩⟩
  exact ⟨.ref s3.heap.objs.size, _, I4, rfl, q _ fr⟩
theorem pe_getOS {lo hi : Option Expr} {p2 : Pos} {E : St → XK} (m : Meth X.K C "__getitem__" f) (hf : PySem.W.fnIn X.K f = true) (c : OpC X.K C) (F : FnOk X.prog X.w X.K X.mg X.base CX k f fd ps sp) (hr : Room k X.A) (hb : Binds X.K fd ps []) (hx : ∀ σ, PassesAt CX X σ (E σ))
    (ha : PE X e1 t1) (hb2 : PE X (.Slice lo hi none p2) t2) : PE X (.Subscript e1 (.Slice lo hi none p2) pos) (tOwn C sp E anyV t1 t2) := by
  refine ⟨fun pins s σ H Q I h => Subscript_ (binT ha hb2 I h fun v u s2 x y H2 I2 rx ry q => ?_)⟩
  obtain ⟨a, dx, fs, rfl, ea, _, q⟩ := q
  cases rx
  obtain ⟨od, J⟩ := I2.instAt ea
  obtain ⟨m0, hF⟩ := I2.fr
  exact PySem.W.sub_KS hF I2.ok.mod.kin J m.at_ hf m.fn c.noseq (run_two F hr rfl hb (hx σ) I2 ry q)
/-- o[i] = v by an own __setitem__ -/
def gSubO (C : Addr) (sp : Sp) (E : St → XK) (to ti : TE) : TG := fun v σ H Q => to σ H fun x H1 => ti σ H1 fun i H2 => ∃ a dx fs, x = .ref a ∧ H2 a = some (.ins C dx fs) ∧ sp [.ref a, i, v] H2 (fun _ H3 => Q σ H3) (E σ)
theorem pg_subO {l : List Value → List Value} {E : St → XK} (m : Meth X.K C "__setitem__" f) (c : OpC X.K C) (F : FnOk X.prog X.w X.K X.mg X.base CX k f fd ps sp) (hr : Room k X.A) (hb : Binds X.K fd ps []) (hx : ∀ σ, PassesAt CX X σ (E σ))
    (ho : PE X e1 t1) (hi : PE X e2 t2)
    (ha : ∀ v, assign (.Subscript e1 e2 pos) X.env v = (do
      let ov ← holding [v] (eval e1 X.env)
      let iv ← holding [v, ov] (eval e2 X.env)
      standAt pos
      holding [v, ov, iv] (setItem ov iv v)
      release (l [v, ov, iv]) [])) : PG X (.Subscript e1 e2 pos) (gSubO C sp E t1 t2) := by
  refine ⟨fun pins s σ H v u Q I r h => ?_⟩
  rw [ha]
  refine wpAny_bind (wpAny_holding (thn (ho.run pins s σ H _ I h) fun ov s1 ⟨x, H1, I1, r1, q1⟩ => ?_))
  refine wpAny_bind (wpAny_holding (thn (hi.run pins s1 σ H1 _ I1 q1) fun iv s2 ⟨y, H2, I2, r2, a, dx, fs, ex, ea, q2⟩ => ?_))
  subst ex
  cases r1
  obtain ⟨od, J⟩ := I2.instAt ea
  obtain ⟨m0, hF⟩ := I2.fr
  refine wpAny_bind (wpAny_standAt (wpAny_bind (wpAny_holding (PySem.W.ksp_setItem hF I2.ok.mod.kin J c.noseq m.at_ m.fn (thn (run_in (vs := [.ref a, y, v]) (dvs := []) (ds := []) F hr rfl hb .nil (hx σ) I2 (.cons rfl (.cons r2 (.cons r .nil))) (by simpa using q2)) ?_)))))
  rintro z s3 ⟨zv, H3, I3, _, q3⟩
  exact wpAny_release ⟨σ, H3, I3, q3⟩
end
end L2

/-! Slices as values; operators of own classes with ints; += of own classes. -/
namespace L2
open PySem PySem.Spec PyProof.Rows
section
variable {X : Cx} {CX : CXT} {k : Nat} {f C a dx : Addr} {fs : List (Str × V)} {fd : FuncData} {ps : List Str} {sp : Sp} {pins : List (Addr × Obj)} {σ : St} {H : Hp} {s : Shared} {pos : Pos} {e1 e2 e3 : Expr} {t1 t2 t3 : TE}
theorem passE0 (σ : St) : PassesAt (L2.CX X.prog X.w) X σ E0 := fun _ _ _ _ _ _ h => by
  obtain ⟨_, _, _, _, _, _, _, _, _, _, _, _, z⟩ := h
  exact z.elim
theorem fnIn_D {K : Frg} {x qual : Str} {params : Arguments} {body : List Stmt} {scope : Scope} {dvs : List V} {kws : List (Str × V)} (F : FunD K x qual params body scope dvs kws f fd) : PySem.W.fnIn K f = true := by
  obtain ⟨oc, od, dV, kV, doc, pm, an, cdv, ct, osl, rfl, lk, _⟩ := F.ex
  unfold PySem.W.fnIn
  rw [lk]
theorem sli_of {p : Addr} {i j : Int} (I : Inv X pins σ H s) (h : H p = some (Sli p i j)) : ∃ t u, s.heap.IsSliceOf p (.int i t) (.int j u) .none := by
  obtain ⟨⟨t, u, e⟩, _⟩ := I.hok p _ h
  exact ⟨t, u, _, e, rfl, rfl⟩
/-- a[s], s a slice object -/
def rIxSl (r : SlV) : R2 := fun x y H Q => ∃ p i j, y = .ref p ∧ H p = some (Sli p i j) ∧ r x (some i) (some j) H Q
theorem ix_sli {r : SlV} (hr : SlR X r) : IxR X (rIxSl r) := by
  intro value slice pins s σ H x y v u Q I rx ry h hs
  obtain ⟨p, i, j, rfl, hp, q⟩ := h
  cases ry
  obtain ⟨t, u, e⟩ := sli_of I hp
  obtain ⟨T, id, hT, ht, hg⟩ := hr pins s σ H x v _ _ _ _ p Q I rx e (.int i t) (.int j u) q
  exact tail_any ht hT hg hs
/-- a[i], a[s] -/
def rIxW (K : Frg) : R2 := fun x y H Q => rIx K x y H Q ∨ rIxSl (rSlA K) x y H Q
theorem ix_W : IxR X (rIxW X.K) := ix_seq.or (ix_sli sl_A)
/-- a[s] = b of lists, s a slice object -/
def rSetSl : TSet := fun o i v H Q => ∃ l b p xs ys c d, o = .ref l ∧ i = .ref p ∧ v = .ref b ∧ H l = some (.lst xs) ∧ H b = some (.lst ys) ∧ l ≠ b ∧ H p = some (Sli p c d) ∧ 0 ≤ c ∧ c ≤ d ∧ d ≤ xs.length ∧ xs.length + ys.length ≤ sizeLine ∧ Q (upd H l (.lst (xs.take c.toNat ++ ys ++ xs.drop d.toNat)))
theorem set_sli : PSet X rSetSl := by
  intro pins s σ H o i v ov iv u Q I ro ri rv h
  obtain ⟨l, b, p, xs, ys, c, d, rfl, rfl, rfl, hl, hb, ne, hp, h0, hcd, hd, hz, q⟩ := h
  cases ro
  cases ri
  cases rv
  obtain ⟨t, w, e⟩ := sli_of I hp
  exact set_slice I hl hb ne e ⟨t, rfl⟩ ⟨w, rfl⟩ h0 hcd hd hz fun s' I' => ⟨_, I', q⟩
def rSetW : TSet := fun o i v H Q => rSetL o i v H Q ∨ rSetSl o i v H Q
theorem set_W : PSet X rSetW := by
  intro pins s σ H o i v ov iv u Q I ro ri rv h
  rcases h with h | h
  · exact set_list pins s σ H o i v ov iv u Q I ro ri rv h
  · exact set_sli pins s σ H o i v ov iv u Q I ro ri rv h
/-- i * o -/
structure RmC (K : PySem.W.Frag) (C : Addr) : Prop where
  no : PySem.W.findIn K (.ref C) "__mul__" = some none
  sub : PySem.W.subIn K (.ref C) (.type "int") = some false
def tRmul (C : Addr) (sp : Sp) (E : St → XK) (ta tb : TE) : TE := fun σ H Q => ta σ H fun x H1 => tb σ H1 fun y H2 => ∃ i a dx fs, x = .int i ∧ y = .ref a ∧ H2 a = some (.ins C dx fs) ∧ sp [.ref a, .int i] H2 Q (E σ)
theorem pe_rmulO {E : St → XK} (m : Meth X.K C "__rmul__" f) (c : OpC X.K C) (c2 : RmC X.K C) (F : FnOk X.prog X.w X.K X.mg X.base CX k f fd ps sp) (hr : Room k X.A) (hb : Binds X.K fd ps []) (hx : ∀ σ, PassesAt CX X σ (E σ))
    (ha : PE X e1 t1) (hb2 : PE X e2 t2) : PE X (.BinOp e1 .Mult e2 pos) (tRmul C sp E t1 t2) := by
  refine ⟨fun pins s σ H Q I h => wpAny_BinOp (binT ha hb2 I h fun v u s2 x y H2 I2 rx ry q => ?_)⟩
  obtain ⟨i, a, dx, fs, rfl, rfl, ea, q⟩ := q
  obtain ⟨t, rfl⟩ := rx
  cases ry
  obtain ⟨od, J⟩ := I2.instAt ea
  obtain ⟨m0, hF⟩ := I2.fr
  exact PySem.W.rmul_K (fun v z => by cases z) hF I2.ok.mod.kin J c.first m.at_ c2.no m.fn c2.sub (thn (run_two (y := .int i) F hr rfl hb (hx σ) I2 ⟨t, rfl⟩ q) fun _ _ z => z.back)
/-- o op i -/
structure BiC (K : PySem.W.Frag) (C : Addr) (nm : String) : Prop where
  r : PySem.W.findIn K (.ref C) (PySem.dunderR nm) = some none
  f1 : ∃ v, PySem.W.findIn K (.type "int") (PySem.dunder nm) = some v
  f2 : ∃ v, PySem.W.findIn K (.type "int") (PySem.dunderR nm) = some v
  sub : PySem.W.subIn K (.type "int") (.ref C) = some false
theorem pe_binI {op : Operator} {E : St → XK} (m : Meth X.K C (PySem.dunder op.info.2) f) (c : OpC X.K C) (c2 : BiC X.K C op.info.2) (F : FnOk X.prog X.w X.K X.mg X.base CX k f fd ps sp) (hr : Room k X.A) (hb : Binds X.K fd ps []) (hx : ∀ σ, PassesAt CX X σ (E σ))
    (ha : PE X e1 t1) (hb2 : PE X e2 t2) : PE X (.BinOp e1 op e2 pos) (tOwn C sp E isIntV t1 t2) := by
  refine ⟨fun pins s σ H Q I h => wpAny_BinOp (binT ha hb2 I h fun v u s2 x y H2 I2 rx ry q => ?_)⟩
  obtain ⟨a, dx, fs, rfl, ea, ⟨i, rfl⟩, q⟩ := q
  cases rx
  obtain ⟨t, rfl⟩ := ry
  obtain ⟨od, J⟩ := I2.instAt ea
  obtain ⟨m0, hF⟩ := I2.fr
  obtain ⟨v1, f1⟩ := c2.f1
  obtain ⟨v2, f2⟩ := c2.f2
  exact PySem.W.ksp_binT (T := "int") hF I2.ok.mod.kin J rfl c.first m.at_ m.fn c2.r (.inl rfl) f1 f2 c2.sub (thn (run_two (y := .int i) F hr rfl hb (hx σ) I2 ⟨t, rfl⟩ q) fun _ _ z => z.back)
/-- x op= q, x an instance with its own method -/
def rIpO (C : Addr) (sp : Sp) (E : XK) : TIp := fun x y H Q => ∃ a dx fs, x = .ref a ∧ H a = some (.ins C dx fs) ∧ sp [.ref a, y] H Q E
theorem ip_own {op : Operator} {E : XK} (m : Meth X.K C (PySem.dunderI op.info.2) f) (c : OpC X.K C) (F : FnOk X.prog X.w X.K X.mg X.base CX k f fd ps sp) (hr : Room k X.A) (hb : Binds X.K fd ps []) (hx : ∀ σ, PassesAt CX X σ E) : PIp X op (rIpO C sp E) := by
  intro pins s σ H x y v u Q I rx ry h
  obtain ⟨a, dx, fs, rfl, ea, q⟩ := h
  cases rx
  obtain ⟨od, J⟩ := I.instAt ea
  obtain ⟨m0, hF⟩ := I.fr
  exact PySem.W.ksp_inplace hF I.ok.mod.kin J c.first m.at_ m.fn (thn (run_two F hr rfl hb (hx σ) I ry q) fun _ _ z => z.back)
end
end L2
namespace Rz
open PySem PySem.Spec PyProof.Rows L2 He
def opB (C : Str) : Fg → Bool := fun K => PySem.W.selfFirst K (ga K C) && PySem.W.noSeq K (ga K C)
theorem opB_ok {C : Str} {K : Fg} (h : opB C K = true) : OpC K (ga K C) := ⟨(ba h).1, (ba h).2⟩
def rmB (C : Str) : Fg → Bool := fun K => eqO (PySem.W.findIn K (.ref (ga K C)) "__mul__") (some none) && decide (PySem.W.subIn K (.ref (ga K C)) (.type "int") = some false)
theorem rmB_ok {C : Str} {K : Fg} (h : rmB C K = true) : RmC K (ga K C) := ⟨eqO_ok (ba h).1, of_decide_eq_true (ba h).2⟩
def biB (C : Str) (nm : String) : Fg → Bool := fun K => (eqO (PySem.W.findIn K (.ref (ga K C)) (PySem.dunderR nm)) (some none) && decide (PySem.W.subIn K (.type "int") (.ref (ga K C)) = some false)) && ((PySem.W.findIn K (.type "int") (PySem.dunder nm)).isSome && (PySem.W.findIn K (.type "int") (PySem.dunderR nm)).isSome)
theorem biB_ok {C : Str} {nm : String} {K : Fg} (h : biB C nm K = true) : BiC K (ga K C) nm :=
  ⟨eqO_ok (ba (ba h).1).1, Option.isSome_iff_exists.mp (ba (ba h).2).1, Option.isSome_iff_exists.mp (ba (ba h).2).2, of_decide_eq_true (ba (ba h).1).2⟩
end Rz

/-! isinstance of a slice object. -/
namespace RzSl
open PySem PySem.F
theorem ga_entry : entryFor table "slice.__getattribute__" = some Builtin.«object.__getattribute__» := by
  refine entryFor_alias (id' := "object.__getattribute__") ?_ ?_ ?_ ?_
  · kernel_rfl
  · first | rfl | decide +kernel
  · decide +kernel
  · kernel_rfl
theorem ga_slot : Slot "slice" "__getattribute__" "slice.__getattribute__" := by
  refine Slot.of (owner := "slice") (n := "__getattribute__") ?_ ?_ ?_ ?_ ?_ ?_
  · rw [typeLookup_type, builtinLookup_eq_fast]
    kernel_rfl
  · decide +kernel
  · decide +kernel
  · decide +kernel
  · first | exact .inl (by decide +kernel) | exact .inr (by decide +kernel)
  · rw [isSubtype_type]
    kernel_rfl
theorem ga_args (a b : Value) : argsOk "slice.__getattribute__" ⟨[a, b], []⟩ := by
  unfold argsOk
  kernel_rfl
theorem cls_lk : typeLookup (.type "slice") "__class__" = pure (some (.builtin "object.__class__")) := by
  rw [typeLookup_type, builtinLookup_eq_fast]
  kernel_rfl
theorem cls_owner : isSubtype (.type "slice") (.type (".".intercalate ("object.__class__".cutAt '.').dropLast)) = pure true := by
  rw [owner_object_class]
  rw [isSubtype_type]
  kernel_rfl
section
variable {P : Program} {w : World} {A : Around} {E : Value → Shared → Prop} {h : Heap} {g : Array GenState} {d : Drawn} {t : Nat} {os : OsState} {a : Addr} {o : Obj}
theorem c_get {R : Result → Shared → Prop} (hx : h.get? a = some o) (hc : o.cls = .type "slice") (hq : R (.ok (.ret (.type "slice"))) ⟨h, g, d, t, os⟩) :
    codeAny (model P w) A (.call (.builtin "getset_descriptor.__get__") ⟨[.builtin "object.__class__", .ref a, .type "slice"], []⟩) R ⟨h, g, d, t, os⟩ := by
  have k1 : (⟨h, g, d, t, os⟩ : Shared).TypeIs (.ref a) "slice" := ⟨_, hx, hc⟩
  have k2 : (⟨h, g, d, t, os⟩ : Shared).TypeIs (.builtin "object.__class__") "getset_descriptor" := typeOf_object_class
  have k3 := cls_owner
  refine codeAny_call_builtin slot_gs_get.plain entry_gs_get ?_
  refine slot_gs_get.check _ _ _ _ _ _ _ _ k2 (args_gs_get _ _ _) ?_
  repeat (any_goals (first | assumption | wp_step))
  refine ⟨Code.quiet_builtin _ (by decide +kernel), ?_⟩
  refine codeAny_builtin entry_object_class ?_
  repeat (any_goals (first | assumption | wp_step))
theorem c_entry {tk : Tok} {Q : Fin → Shared → Prop} (hx : h.get? a = some o) (hc : o.cls = .type "slice") (hq : Q (.done (.ret (.type "slice"))) ⟨h, g, d, t, os⟩) :
    wpAny (model P w) A (Builtin.«object.__getattribute__» ⟨[.ref a, .str "__class__" tk], []⟩) Q E ⟨h, g, d, t, os⟩ := by
  have k1 : (⟨h, g, d, t, os⟩ : Shared).TypeIs (.ref a) "slice" := ⟨_, hx, hc⟩
  have k2 : (⟨h, g, d, t, os⟩ : Shared).TypeIs (.builtin "object.__class__") "getset_descriptor" := typeOf_object_class
  have k3 := cls_lk
  have k4 := typeOf_object_class
  have k5 := slot_gs_get.lookup
  have k6 := slot_gs_set.lookup
  repeat (any_goals (first | assumption | wp_step))
  refine c_get hx hc ?_
  repeat (any_goals (first | assumption | wp_step))
theorem c_by {tk : Tok} {Q : Value → Shared → Prop} (hx : h.get? a = some o) (hc : o.cls = .type "slice") (hq : Q (.type "slice") ⟨h, g, d, t, os⟩) : wpAny (model P w) A (getAttrBy (.ref a) (.str "__class__" tk) false) Q E ⟨h, g, d, t, os⟩ := by
  have k1 : (⟨h, g, d, t, os⟩ : Shared).TypeIs (.ref a) "slice" := ⟨_, hx, hc⟩
  have k2 := ga_slot.lookup
  have k3 := ga_slot.bind (.ref a)
  repeat (any_goals (first | assumption | wp_step))
  refine codeAny_call_builtin ga_slot.plain ga_entry ?_
  refine ga_slot.check _ _ _ _ _ _ _ _ k1 (ga_args _ _) ?_
  refine c_entry hx hc ?_
  repeat (any_goals (first | assumption | wp_step))
theorem c_attr {Q : Option Value → Shared → Prop} (hx : h.get? a = some o) (hc : o.cls = .type "slice") (hq : Q (some (.type "slice")) ⟨h, g, d, t + 1, os⟩) : wpAny (model P w) A (getAttr? (.ref a) "__class__") Q E ⟨h, g, d, t, os⟩ := by
  unfold getAttr? getAttrBy?
  repeat (any_goals (first | assumption | with_reducible apply c_by hx hc | wp_step))
end
theorem kit {K : PySem.W.Frag} {a : Addr} : PySem.W.KitX K (.ref a) (.type "slice") (PySem.W.KitAt a "slice") := by
  refine PySem.W.kitx_of PySem.W.kitAt_ty ?_
  intro P w A E Q s p k
  obtain ⟨h, g, d, t, os⟩ := s
  obtain ⟨o, h1, h2⟩ := p
  exact c_attr h1 h2 k
end RzSl
namespace L2
open PySem PySem.Spec PyProof.Rows
/-- isinstance, slice objects besides -/
def rIsiW (K : Frg) : RC := fun xs H Q => rIsi K xs H Q ∨ ∃ p i j c u b, xs = [.ref p, c] ∧ H p = some (Sli p i j) ∧ ClsV c u ∧ PySem.W.kitOne K (.type "slice") u = some b ∧ Q (.bl b) H
theorem c_isiW {X : Cx} : CallR X (.builtin "isinstance") (rIsiW X.K) := by
  intro pins s σ H xs us Q I r h
  rcases h with h | ⟨p, i, j, c, u, b, rfl, hp, k, e, q⟩
  · exact call_isi pins s σ H xs us Q I r h
  · obtain ⟨u1, u2, rfl, r1, r2⟩ := vals2 r
    have e2 := k.eq r2
    subst e2
    cases r1
    obtain ⟨⟨t, u, e3⟩, _⟩ := I.hok p _ hp
    exact PySem.W.kia_one RzSl.kit I.kIn ⟨_, e3, rfl⟩ e (fun z => nomatch z) fun tk => ⟨.bl b, H, I.tok tk, rfl, q⟩
end L2

/-! Calls with keywords; instances called. -/
namespace L2
open PySem PySem.Spec PyProof.Rows
section
variable {K : PySem.W.Frag} {x qual : Str} {params : Arguments} {body : List Stmt} {scope : Scope} {dvs : List V} {kws : List (Str × V)} {f : Addr} {fd : FuncData} {ps : List Str}
/-- a def with defaults, none of them keyword-only: keywords ks -/
theorem FunD.kbD (F : FunD K x qual params body scope dvs [] f fd) (n : Nat) (ks : List Str) (g : {α : Type} → List α → List α → List α → List α) (hd : dvs ≠ [])
    (hrel : ∀ {vs ds zs : List V} {us its ws : List Value}, Vals vs us → Vals ds its → Vals zs ws → Vals (g vs ds zs) (g us its ws))
    (h : ∀ (T : Addr) (kV doc pm : Value) (an : Option Addr) (cdv ct : Value) (us its ws : List Value), us.length = n → its.length = dvs.length → ws.length = ks.length →
      ∃ k, bindArgs (PySem.W.fnOf x qual params body scope (.ref T) kV doc pm an cdv ct) ⟨us, ks.zip ws⟩ = seqItems? (.ref T) >>= k ∧ k (some its.toArray) = pure (ps.zip (g us its ws))) :
    ∃ its : List Value, KBn K fd ps n ks (fun us ws => g us its ws) (fun vs zs => g vs dvs zs) := by
  obtain ⟨oc, od, dV, kV, doc, pm, an, cdv, ct, osl, rfl, lk, hcd, hD, hK⟩ := F.ex
  rcases hD with ⟨e, _⟩ | ⟨_, T, o, its, m, rfl, lT, oT, rT⟩
  · exact absurd e hd
  · refine ⟨its, ⟨fun s us ws X l1 l2 => ?_, fun r1 r2 => hrel r1 rT r2⟩⟩
    obtain ⟨k, e1, e2⟩ := h T kV doc pm an cdv ct us its ws l1 rT.length.symm l2
    refine BindsTo.of_looks fun M => ?_
    rw [e1]
    exact looks_items X lT oT (.of_pure e2)
/-- a def without defaults, or with keyword-only ones that are all written -/
theorem FunD.kbK (F : FunD K x qual params body scope [] kws f fd) (n : Nat) (ks : List Str) (g : {α : Type} → List α → List α → List α)
    (hrel : ∀ {vs zs : List V} {us ws : List Value}, Vals vs us → Vals zs ws → Vals (g vs zs) (g us ws))
    (h : ∀ (kV doc pm : Value) (an : Option Addr) (cdv ct : Value) (us ws : List Value), us.length = n → ws.length = ks.length →
      bindArgs (PySem.W.fnOf x qual params body scope .none kV doc pm an cdv ct) ⟨us, ks.zip ws⟩ = pure (ps.zip (g us ws))) :
    KBn K fd ps n ks (fun us ws => g us ws) (fun vs zs => g vs zs) := by
  obtain ⟨oc, od, dV, kV, doc, pm, an, cdv, ct, osl, rfl, lk, hcd, hD, hK⟩ := F.ex
  rcases hD with ⟨_, rfl⟩ | ⟨e, _⟩
  · exact ⟨fun s us ws X l1 l2 => BindsTo.of_eq (h kV doc pm an cdv ct us ws l1 l2), fun r1 r2 => hrel r1 r2⟩
  · exact absurd rfl e
/-- .. keyword-only defaults, those of ms lack -/
theorem FunD.kbM (F : FunD K x qual params body scope [] kws f fd) (n : Nat) (ks : List Str) (ms : List (Str × V)) (g : {α : Type} → List α → List α → List α → List α) (hk : kws ≠ []) (hms : ∀ q ∈ ms, q ∈ kws)
    (hrel : ∀ {vs mz zs : List V} {us mv ws : List Value}, Vals vs us → Vals mz mv → Vals zs ws → Vals (g vs mz zs) (g us mv ws))
    (h : ∀ (D : Addr) (doc pm : Value) (an : Option Addr) (cdv ct : Value) (us mv ws : List Value), us.length = n → mv.length = ms.length → ws.length = ks.length →
      KwChain D ((ms.map (·.1)).zip mv) (bindArgs (PySem.W.fnOf x qual params body scope .none (.ref D) doc pm an cdv ct) ⟨us, ks.zip ws⟩) (ps.zip (g us mv ws))) :
    ∃ mv : List Value, KBn K fd ps n ks (fun us ws => g us mv ws) (fun vs zs => g vs (ms.map (·.2)) zs) := by
  obtain ⟨oc, od, dV, kV, doc, pm, an, cdv, ct, osl, rfl, lk, hcd, hD, hK⟩ := F.ex
  rcases hD with ⟨_, rfl⟩ | ⟨e, _⟩
  · rcases hK with e | ⟨D, rfl, hq⟩
    · exact absurd e hk
    · obtain ⟨mv, hl, rk, hks⟩ := kwd_vals (ms := ms) fun q hm => hq q (hms q hm)
      exact ⟨mv, ⟨fun s us ws X l1 l2 => BindsTo.of_looks fun M => KwChain.looks X hks (h D doc pm an cdv ct us mv ws l1 hl l2), fun r1 r2 => hrel r1 rk r2⟩⟩
  · exact absurd rfl e
end
section
variable {X : Cx} {CX : CXT} {k n : Nat} {f C : Addr} {fd : FuncData} {ps ks : List Str} {sp : Sp} {dvs : List V} {ds : List Value} {E : St → XK} {x m : Str} {p pos apos : Pos} {e o : Expr} {es : List Expr} {kws : List Keyword} {ta : TE} {t tk : TA} {g : List Value → List Value → List Value} {gV : List V → List V → List V}
theorem run_fnNS {pins : List (Addr × Obj)} {σ : St} {H : Hp} {s : Shared} {Q : VK} {us ws : List Value} {vs zs : List V} (F : FnOk X.prog X.w X.K X.mg X.base CX k f fd ps sp) (hr : Room k X.A) (hb : KBn X.K fd ps n ks g gV) (hx : PassesAt CX X σ (E σ))
    (I : Inv X pins σ H s) (r : Vals vs us) (rz : Vals zs ws) (l1 : vs.length = n) (l2 : zs.length = ks.length) (h : sp (gV vs zs) H Q (E σ)) : codeAny (model X.prog X.w) X.A (.call (.ref f) ⟨us, ks.zip ws⟩) (wants (EP X pins σ Q) X.xe) s := by
  refine codeAny_mono (F.run X.A X.stack s H ⟨us, ks.zip ws⟩ (g us ws) (gV vs zs) Q (E σ) hr I.env0 (hb.to s us ws I.kIn (r.length.symm.trans l1) (rz.length.symm.trans l2)) (hb.rel r rz) h) ?_
  intro res s' hq
  match res, hq with
  | .error e, hq => exact hx pins H s e s' I hq
  | .ok (.ret u), hq => exact I.after hq
  | .ok .next, hq => exact hq.elim
  | .ok .brk, hq => exact hq.elim
  | .ok .cont, hq => exact hq.elim
def tCallNS (n m : Nat) (sp : Sp) (gV : List V → List V → List V) (E : St → XK) (t tk : TA) : TE := fun σ H Q => t σ H fun vs H1 => tk σ H1 fun zs H2 => vs.length = n ∧ zs.length = m ∧ sp (gV vs zs) H2 Q (E σ)
/-- f(e, .., k = v, ..) -/
theorem pe_callNS (F : FnOk X.prog X.w X.K X.mg X.base CX k f fd ps sp) (hr : Room k X.A) (hg : Gl X x) (hm : X.mg x = some (.ref f)) (hk : PySem.W.keepIn X.K (.ref f) = true) (hb : KBn X.K fd ps n ks g gV) (hx : ∀ σ, PassesAt CX X σ (E σ))
    (ha : PA X (e :: es) t) (hkw : PK X kws tk) (hall : (backToKw pos (keywordEach kws X.env)).all (·.1.isSome) = true := by rfl) (hks : (backToKw pos (keywordEach kws X.env)).filterMap (·.1) = ks := by rfl)
    (hdb : (x == ("__debug__" : Str)) = false := by decide) (he : starEach (e :: es) X.env = (false, eval e X.env) :: starEach es X.env := by rfl)
    (hpl : ((backTo pos (starEach (e :: es) X.env)).any (·.1) || (backToKw pos (keywordEach kws X.env)).any (·.1.isNone)) = false := by rfl) :
    PE X (.Call (.Name x p) (e :: es) kws pos) (tCallNS n ks.length sp gV E t tk) := by
  refine ⟨fun pins s σ H Q I h => ?_⟩
  refine wpAny_Call_Name_kw (ld_glob I hg hm ?_ hdb)
  refine PySem.W.callWith_KW (h₀ := X.base) I.ok.mod.kin hk hall (thn (ha.run pos pins s σ H _ I h) fun us s1 ⟨vs, H1, I1, r, q⟩ => ?_) hpl he
  refine thn (hkw.run pos pins s1 σ H1 _ I1 q) fun ws s2 ⟨zs, H2, I2, rz, l1, l2, q2⟩ => ⟨I2.kIn, ?_⟩
  rw [hks]
  exact wpAny_call (run_fnNS F hr hb (hx σ) I2 r rz l1 l2 q2)
/-- an instance called, positional -/
structure CaC (K : PySem.W.Frag) (C g : Addr) : Prop where
  m : Meth K C "__call__" g
  fi : PySem.W.fnIn K g = true
def tCaO (C : Addr) (sp : Sp) (dvs : List V) (E : St → XK) (ta : TE) (t : TA) : TE := fun σ H Q => ta σ H fun y H1 => ∃ a, y = .ref a ∧ t σ H1 fun vs H2 => ∃ dx fs, H2 a = some (.ins C dx fs) ∧ sp (.ref a :: (vs ++ dvs)) H2 Q (E σ)
theorem caO_with {M : Model} {A : Around} {E' : Value → Shared → Prop} {s : Shared} {a : Addr} {Q : Value → Shared → Prop} {args : List (Bool × Sem Value)} {kw : List (Option Str × Sem Value)} (hpl : (args.any (·.1) || kw.any (·.1.isNone)) = false)
    (h : wpAny M A (evalArgs (.ref a) true args kw) (fun z s₁ => (∃ C ox od, PySem.W.InstAt s₁.heap a ox C od ∧ ox.data = .plain) ∧ wpAny M A (call (.ref a) z.pos z.kw) Q E' s₁) E' s) : wpAny M A (callWith pos (.ref a) [] args kw) Q E' s := by
  unfold callWith
  refine wpAny_bind (wpAny_holding (wpAny_mono h ?_ fun _ _ y => y))
  rintro z s₁ ⟨⟨C, ox, od, J, hd⟩, h₁⟩
  refine wpAny_bind (wpAny_standAt ?_)
  simp only [hpl]
  refine wpAny_bind ((PySem.W.kco_keeper (M := M) J hd).here ?_)
  refine wpAny_bind (wpAny_mono (wpAny_operateT h₁) ?_ fun _ _ y => y)
  intro r s₂ hr
  exact wpAny_bind (wpAny_holding (wpAny_point (wpAny_pure hr)))
theorem pe_caO {fe : Expr} (hf : PE X fe ta) (c : CaC X.K C f) (F : FnOk X.prog X.w X.K X.mg X.base CX k f fd ps sp) (hr : Room k X.A) (hb : Binds X.K fd ps ds) (hd : Vals dvs ds) (hx : ∀ σ, PassesAt CX X σ (E σ)) (ha : PA X (e :: es) t)
    (ht : eval (.Call fe (e :: es) [] pos) X.env = (do callWith pos (← eval fe X.env) [] (backTo pos (starEach (e :: es) X.env)) (backToKw pos (keywordEach [] X.env))) := by rfl)
    (he : starEach (e :: es) X.env = (false, eval e X.env) :: starEach es X.env := by rfl) (hpl : (backTo pos (starEach es X.env)).any (·.1) = false := by rfl) : PE X (.Call fe (e :: es) [] pos) (tCaO C sp dvs E ta t) := by
  refine ⟨fun pins s σ H Q I h => ?_⟩
  refine Call_ (thn (hf.run pins s σ H _ I h) ?_) ht
  rintro u s1 ⟨y, H1, I1, ry, a, rfl, q⟩
  cases ry
  have hpl2 : ((backTo pos (starEach (e :: es) X.env)).any (·.1) || (backToKw pos (keywordEach [] X.env)).any (·.1.isNone)) = false := by
    rw [he]
    show ((false || (backTo pos (starEach es X.env)).any (·.1)) || false) = false
    rw [hpl]
    rfl
  refine caO_with hpl2 ?_
  have run := ha.run pos pins s1 σ H1 _ I1 q
  rw [he] at run ⊢
  refine PySem.Calls.evalArgs_plain (thn run ?_)
  rintro us s2 ⟨vs, H2, I2, r, dx, fs, ea, q2⟩
  obtain ⟨od, J⟩ := I2.instAt ea
  refine ⟨⟨C, _, _, J, rfl⟩, ?_⟩
  refine wpAny_call (PySem.W.kco_code I2.kIn J rfl c.m.at_ c.m.fn c.fi ?_)
  have rr : Vals (.ref a :: (vs ++ dvs)) (Value.ref a :: us ++ ds) := .cons rfl (r.append hd)
  refine codeAny_mono (F.run X.A X.stack s2 H2 ⟨Value.ref a :: us, []⟩ _ _ Q (E σ) hr I2.env0 (hb s2 (Value.ref a :: us) I2.kIn (rr.length.symm.trans (F.len _ _ _ _ q2))) rr q2) ?_
  intro res s' hq
  match res, hq with
  | .error e, hq => exact hx σ pins H2 s2 e s' I2 hq
  | .ok (.ret u), hq => exact I2.after hq
  | .ok .next, hq => exact hq.elim
  | .ok .brk, hq => exact hq.elim
  | .ok .cont, hq => exact hq.elim
/-- an instance called, with keywords -/
def tCaK (C : Addr) (n m : Nat) (sp : Sp) (gV : List V → List V → List V) (E : St → XK) (ta : TE) (t tk : TA) : TE := fun σ H Q => ta σ H fun y H1 => ∃ a, y = .ref a ∧ t σ H1 fun vs H2 => tk σ H2 fun zs H3 => ∃ dx fs, H3 a = some (.ins C dx fs) ∧ vs.length = n ∧ zs.length = m ∧ sp (gV (.ref a :: vs) zs) H3 Q (E σ)
theorem pe_caK {fe : Expr} (hf : PE X fe ta) (c : CaC X.K C f) (F : FnOk X.prog X.w X.K X.mg X.base CX k f fd ps sp) (hr : Room k X.A) (hb : KBn X.K fd ps (n + 1) ks g gV) (hx : ∀ σ, PassesAt CX X σ (E σ)) (ha : PA X (e :: es) t) (hkw : PK X kws tk)
    (ht : eval (.Call fe (e :: es) kws pos) X.env = (do callWith pos (← eval fe X.env) [] (backTo pos (starEach (e :: es) X.env)) (backToKw pos (keywordEach kws X.env))) := by rfl)
    (hall : (backToKw pos (keywordEach kws X.env)).all (·.1.isSome) = true := by rfl) (hks : (backToKw pos (keywordEach kws X.env)).filterMap (·.1) = ks := by rfl)
    (he : starEach (e :: es) X.env = (false, eval e X.env) :: starEach es X.env := by rfl) (hpl : ((backTo pos (starEach (e :: es) X.env)).any (·.1) || (backToKw pos (keywordEach kws X.env)).any (·.1.isNone)) = false := by rfl) : PE X (.Call fe (e :: es) kws pos) (tCaK C n ks.length sp gV E ta t tk) := by
  refine ⟨fun pins s σ H Q I h => ?_⟩
  rw [ht]
  refine wpAny_bind (thn (hf.run pins s σ H _ I h) ?_)
  rintro u s1 ⟨y, H1, I1, ry, a, rfl, q⟩
  cases ry
  refine caO_with hpl ?_
  refine evalArgs_kw2 hall (thn (ha.run pos pins s1 σ H1 _ I1 q) ?_) he
  rintro us s2 ⟨vs, H2, I2, r, q2⟩
  refine thn (hkw.run pos pins s2 σ H2 _ I2 q2) ?_
  rintro ws s3 ⟨zs, H3, I3, rz, dx, fs, ea, l1, l2, q3⟩
  obtain ⟨od, J⟩ := I3.instAt ea
  refine ⟨⟨C, _, _, J, rfl⟩, ?_⟩
  rw [hks]
  refine wpAny_call (PySem.W.kco_code I3.kIn J rfl c.m.at_ c.m.fn c.fi ?_)
  exact run_fnNS (us := Value.ref a :: us) (vs := .ref a :: vs) F hr hb (hx σ) I3 (.cons rfl r) rz (by rw [List.length_cons, l1]) l2 q3
end
end L2

/-! a law's end where the defs' world of exceptions hangs on the program -/
namespace Rz
open PySem PySem.Spec PyProof.Rows L2
variable {l : PySem.W.OpenLaw} {n k : Nat} {q : Program} {loose : List Str} {XP : (Str → Option Value) → Heap → Prop} {YP : World → Heap → Prop} {d : DefRec} {x : Str}
/-- what the end asks of the head's facts -/
def Given (l : PySem.W.OpenLaw) (n k : Nat) (x : Str) (w : World) (mg : Str → Option Value) (fa : Addr) (h : Heap) : Prop :=
  ∃ (K : PySem.W.Frag) (fd : FuncData) (sp : Sp), K.In h ∧ (∀ (s : Shared) (u : Value), BindsTo s fd ⟨[u], []⟩ [(x, u)]) ∧
    (∀ (H : Hp) (a : Addr) (ns : List Int), ns.length ≤ n → SqL K H a (ns.map V.int) → sp [.ref a] H (fun v _ => v = .bl true) fun _ _ _ => False) ∧
    ∀ base : Heap, K.In base → base.Ns mainGlobals mg → FnOk l.prog w K mg base (L2.CX l.prog w) k fa fd [x] sp
theorem endX (hn : l.most = some n) (hn2 : n ≤ sizeLine) (hdf : d.params.defaults = []) (hr : Room k callerA)
    (F : ∀ (w : World) (mg : Str → Option Value) (fa : Addr) (h : Heap), YP w h → h.Ns mainGlobals mg → mg d.name = some (.ref fa) → Given l n k x w mg fa h) :
    PySem.W.WalkO q loose XP YP l.row.toRowW d [] (fun f vs => PySem.call f vs) := by
  refine Att.attach_call hn hdf ?_
  intro w s₀ s₁ mg mb fa o pm cd doc a vs ns G Y ho hd hcd hmg hobj hints hlen hg
  have T := G.T
  obtain ⟨K, fd, sp, KX, hb, hsp, hF⟩ := F w mg fa _ Y T.g hmg
  refine law_call KX T.g T.b T.builtins T.nolimit hg hobj hints (Nat.le_trans hlen hn2) hr hF hb ?_ ?_
  · exact fun H _ hS => hsp H a ns hlen hS
  · rintro H e s' ⟨_, _, _, _, _, _, _, _, _, _, _, _, z⟩
    exact z
/-- one function object stands at an address -/
theorem fd_one {K : PySem.W.Frag} {y qual y2 qual2 : Str} {ps ps2 : Arguments} {body body2 : List Stmt} {sc sc2 : Scope} {dv dv2 : List V} {kw kw2 : List (Str × V)} {f : Addr} {fd fd2 : FuncData}
    (a : FunD K y qual ps body sc dv kw f fd) (b : FunD K y2 qual2 ps2 body2 sc2 dv2 kw2 f fd2) : fd = fd2 := by
  obtain ⟨_, _, _, _, _, _, _, _, _, _, _, la, _⟩ := a.ex
  obtain ⟨_, _, _, _, _, _, _, _, _, _, _, lb, _⟩ := b.ex
  have e := Option.some.inj (la.symm.trans lb)
  cases e
  rfl
end Rz

/-! The top's run, looked at in parts: each part is a theorem of its own, so that the kernel's memory serves a larger top. -/
namespace Rz
open PySem PySem.Spec PySem.W PyProof.Rows L2 He HandSHeadRun
section
variable {r : OpenRow} {q : Program} {M n : Nat} {loose : List PySem.Str} {w : World} {fa fb : List (Fg → Bool)} {fn gn : List Dq}
/-- the state behind the top -/
noncomputable abbrev endS (r : OpenRow) (M : Nat) (w : World) (os : OsState) : Option SharedT := endF (stepQ (denQ tabQ) r.prog w) M r.prog w os
def LkEq (r : OpenRow) (M : Nat) (w : World) : Prop := ∀ os : OsState, (endS r M w os).map (fun s => looksF r.prog (boot_heap w.params) s.abs) = some true
def SnEq (r : OpenRow) (q : Program) (M : Nat) (loose : List PySem.Str) (w : World) : Prop := ∀ os : OsState, (endS r M w os).map (fun s => seenQ q loose (importedModules r.prog.main.body) (fun s => xlAt q [] s && recOk r.toRowW.records s) s.abs) = some (openGood q loose)
def ObEq (r : OpenRow) (M n : Nat) (fa : List (Fg → Bool)) (fn : List Dq) (w : World) : Prop := ∀ os : OsState, (endS r M w os).map (fun s => obsRG n fa fn (getT s)) = some (valR fn)
theorem obsR_app {K : Fg} (h1 : obsR fa fn K = valR fn) (h2 : obsR fb gn K = valR gn) : obsR (fa ++ fb) (fn ++ gn) K = valR (fn ++ gn) := by
  have a1 := ba (show ((fa.all fun f => f K) && fn.all fun d => d.ok K) = true from congrArg Prod.fst h1)
  have a2 := ba (show ((fb.all fun f => f K) && gn.all fun d => d.ok K) = true from congrArg Prod.fst h2)
  have b1 : fn.map (fun d => fnQ K (d.at_ K)) = fn.map Dq.val := congrArg Prod.snd h1
  have b2 : gn.map (fun d => fnQ K (d.at_ K)) = gn.map Dq.val := congrArg Prod.snd h2
  unfold obsR valR
  rw [List.all_append, List.all_append, a1.1, a1.2, a2.1, a2.2, List.map_append, List.map_append, b1, b2]
  rfl
theorem some_of {α β : Type} {o : Option α} {f : α → β} {b : β} (h : o.map f = some b) : ∃ s, o = some s ∧ f s = b := Option.map_eq_some_iff.mp h
theorem ObEq.app (a : ObEq r M n fa fn w) (b : ObEq r M n fb gn w) : ObEq r M n (fa ++ fb) (fn ++ gn) w := fun os => by
  obtain ⟨s, e, h⟩ := some_of (a os)
  obtain ⟨s2, e2, h2⟩ := some_of (b os)
  rw [e] at e2
  cases e2
  rw [e]
  exact congrArg some (obsR_app h h2)
theorem run_all (l : LkEq r M w) (c : SnEq r q M loose w) (o : ObEq r M n fa fn w) : RunEq r q (hookR n fa fn) (fun s => obsRG n fa fn (getT s)) M loose w := fun os => by
  obtain ⟨s, e, h⟩ := some_of (l os)
  obtain ⟨s2, e2, h2⟩ := some_of (c os)
  obtain ⟨s3, e3, h3⟩ := some_of (o os)
  rw [e] at e2 e3
  cases e2
  cases e3
  show (endS r M w os).map _ = _
  rw [e]
  exact congrArg some (Prod.ext h (Prod.ext h2 h3))
end
end Rz

/-! ==, != and < of instances by an own __eq__ and __lt__; what declines (NotImplemented) against texts and lists. -/
namespace Rz
open PySem PySem.W PySem.Calls PyProof.Rows
/-- what a comparison's method hands over: a truth, or NotImplemented -/
def Told3 (P : Bool → Shared → Prop) (N : Shared → Prop) (v : Value) (s' : Shared) : Prop := (∃ b, v = .bool b ∧ P b s') ∨ (v = .notImplemented ∧ N s')
section
variable {prog : Program} {w : World} {A : Around} {E : Value → Shared → Prop} {s : Shared} {K : Frag} {x C f : Addr} {ox : Obj} {od : Option Obj} {b : Value}
/-- own __eq__ -/
theorem try_eq {P : Bool → Shared → Prop} {N : Shared → Prop} {Q : Option Value → Shared → Prop} (X : K.In s.heap) (I : PySem.W.InstAt s.heap x ox C od) (hs : findIn K (.ref C) "__eq__" = some (some (.ref f))) (hf : isFn K (.ref f) = true)
    (h : wpAny (model prog w) A (call (.ref f) [.ref x, b]) (Told3 P N) E s) (hP : ∀ r s', P r s' → Q (some (.bool r)) s') (hN : ∀ s', N s' → Q none s') : wpAny (model prog w) A (tryCompare (.ref x) "__eq__" b) Q E s := by
  unfold tryCompare
  refine wpAny_bind (ifBound_K X I hs hf (wpAny_mono h (fun v s' hv => ?_) fun _ _ e => e))
  rcases hv with ⟨r, rfl, q⟩ | ⟨rfl, q⟩
  · exact wpAny_pure (hP r s' q)
  · exact wpAny_pure (hN s' q)
theorem ne_slot : Slot "object" "__ne__" "object.__ne__" := Slot.of (T := "object") (name := "__ne__") (owner := "object") (n := "__ne__") (by rw [typeLookup_type, builtinLookup_eq_fast]; kernel_rfl) (by decide +kernel) (by decide +kernel) (by decide +kernel)
    (.inl (by decide +kernel)) (by rw [isSubtype_type]; kernel_rfl)
/-- object.__ne__ over an own __eq__ -/
theorem try_ne {P : Bool → Shared → Prop} {N : Shared → Prop} {Q : Option Value → Shared → Prop} (hu : A.units + 1 < cLine) (X : K.In s.heap) (I : PySem.W.InstAt s.heap x ox C od) (hs : findIn K (.ref C) "__eq__" = some (some (.ref f))) (hf : isFn K (.ref f) = true)
    (hn : findIn K (.ref C) "__ne__" = some (some (.builtin "object.__ne__"))) (ho : subIn K (.ref C) (.type "object") = some true)
    (h : wpAny (model prog w) A.in1 (call (.ref f) [.ref x, b]) (Told3 P N) E s) (hP : ∀ r s', P r s' → Q (some (.bool (!r))) s') (hN : ∀ s', N s' → Q none s') : wpAny (model prog w) A (tryCompare (.ref x) "__ne__" b) Q E s := by
  have sp : Looks (model prog w) s.heap (specialOf (.ref x) "__ne__") (some (.builtin "object.__ne__")) := I.type.andThen (looks_findIn X hn)
  have iv : Looks (model prog w) s.heap (isInstance (.ref x) (.type "object")) true := I.type.andThen (looks_subIn X ho)
  unfold tryCompare
  refine wpAny_bind (NtL.csib sp (ne_slot.bind (.ref x)) ?_)
  show wpAny _ A (call (.builtin "object.__ne__") [.ref x, b]) _ _ _
  refine wpAny_call (codeAny_call_builtin ne_slot.plain F.cmpEntry_ne (@check_slot (model prog w) _ _ _ "object.__ne__" "object" "__ne__" (.ref x) [b] [] _ F.cmpKind_ne F.cmpSplit_ne iv (F.cmpArgs_ne _ _) ?_))
  unfold Builtin.«object.__ne__»
  have go : wpAny (model prog w) A.in1 (callSpecialIfBound? (.ref x) (Str.ofString "__eq__") [b]) (fun r s' => (∃ t, r = some (.bool t) ∧ P t s') ∨ (r = some .notImplemented ∧ N s')) E s :=
    ifBound_K X I hs hf (wpAny_mono h (fun v s' hv => by
      rcases hv with ⟨t, rfl, q⟩ | ⟨rfl, q⟩
      · exact .inl ⟨t, rfl, q⟩
      · exact .inr ⟨rfl, q⟩) fun _ _ e => e)
  repeat (first
    | with_reducible refine wpAny_cRoomFor hu ?_
    | (refine wpAny_bind (m := callSpecialIfBound? (.ref x) (Str.ofString "__eq__") [b]) (wpAny_mono go (fun r s' hr => by
          rcases hr with ⟨t, rfl, q⟩ | ⟨rfl, q⟩
          · repeat (first | exact wpAny_pure ⟨_, rfl, wpAny_pure (hP t s' q)⟩ | exact wpAny_pure (wpAny_pure (hP t s' q)) | exact wpAny_truthy_bool (wpAny_pure ⟨_, rfl, wpAny_pure (hP t s' q)⟩) | (refine wpAny_bind (m := truthy (.bool _)) (wpAny_truthy_bool ?_)) | wp_step)
          · repeat (first | exact wpAny_pure ⟨_, rfl, wpAny_pure (hN s' q)⟩ | exact wpAny_pure (wpAny_pure (hN s' q)) | wp_step)) fun _ _ e => e))
    | wp_step)
/-- == and != of an instance and anything, by the two trials -/
theorem rich_two {op : CmpOp} {nm : PySem.Str} {tb : Value} {Q : Value → Shared → Prop} (hop : (op = .Eq ∧ nm = "__eq__") ∨ (op = .NotEq ∧ nm = "__ne__")) (hu : A.units < cLine) (X : K.In s.heap) (I : PySem.W.InstAt s.heap x ox C od)
    (hb : Looks (model prog w) s.heap (typeOf b) tb) (hn : notFirst K C tb = true)
    (one : wpAny (model prog w) A (tryCompare (.ref x) nm b) (fun r s' => (∃ v, r = some v ∧ Q v s') ∨ (r = none ∧ wpAny (model prog w) A (tryCompare b nm (.ref x)) (fun r2 s2 => r2 = none ∧ wpAny (model prog w) A (isSame (.ref x) b) (fun k s3 => k = false ∧ Q (.bool (op == .NotEq)) s3) E s2) E s')) E s) :
    wpAny (model prog w) A (richCompare op (.ref x) b) Q E s := by
  have tail : ∀ (r : Option Value) (s' : Shared), ((∃ v, r = some v ∧ Q v s') ∨ (r = none ∧ wpAny (model prog w) A (tryCompare b nm (.ref x)) (fun r2 s2 => r2 = none ∧ wpAny (model prog w) A (isSame (.ref x) b) (fun k s3 => k = false ∧ Q (.bool (op == .NotEq)) s3) E s2) E s')) →
      wpAny (model prog w) A (do
        if let some v := r then return v
        if let some v ← tryCompare b nm (.ref x) then return v
        match op with
        | .Eq => rule "compare.eq-identity"; return .bool (← isSame (.ref x) b)
        | .NotEq => rule "compare.ne-identity"; return .bool (!(← isSame (.ref x) b))
        | _ => raiseError "TypeError" "" : Sem Value) Q E s' := by
    intro r s' h
    rcases h with ⟨v, rfl, q⟩ | ⟨rfl, q⟩
    · exact wpAny_pure q
    · refine wpAny_bind (wpAny_mono q (fun r2 s2 h2 => ?_) fun _ _ e => e)
      obtain ⟨rfl, q2⟩ := h2
      rcases hop with ⟨rfl, _⟩ | ⟨rfl, _⟩
      · refine wpAny_bind (wpAny_rule (wpAny_bind (wpAny_mono q2 (fun k s3 h3 => ?_) fun _ _ e => e)))
        obtain ⟨rfl, q3⟩ := h3
        exact wpAny_pure q3
      · refine wpAny_bind (wpAny_rule (wpAny_bind (wpAny_mono q2 (fun k s3 h3 => ?_) fun _ _ e => e)))
        obtain ⟨rfl, q3⟩ := h3
        exact wpAny_pure q3
  unfold richCompare
  simp only [oneThing_ref]
  refine wpAny_holding (wpAny_bind (wpAny_cRoomFor hu ?_))
  rcases hop with ⟨rfl, rfl⟩ | ⟨rfl, rfl⟩
  · dsimp only [cmpInfo]
    refine wpAny_bind (I.type.here (wpAny_bind (hb.here ?_)))
    split
    · rename_i q
      have e : subIn K tb (.ref C) = some false := by
        rcases Bool.or_eq_true_iff.mp hn with e | e
        · rw [beq_iff_eq.mp e] at q; simp at q
        · exact beq_iff_eq.mp e
      refine wpAny_bind ((looks_subIn X e).here ?_)
      simp only [Bool.false_eq_true, if_false]
      exact wpAny_bind (wpAny_mono one (fun r s' z => tail r s' z) fun _ _ e => e)
    · refine wpAny_bind (wpAny_pure ?_)
      simp only [Bool.false_eq_true, if_false]
      exact wpAny_bind (wpAny_mono one (fun r s' z => tail r s' z) fun _ _ e => e)
  · dsimp only [cmpInfo]
    refine wpAny_bind (I.type.here (wpAny_bind (hb.here ?_)))
    split
    · rename_i q
      have e : subIn K tb (.ref C) = some false := by
        rcases Bool.or_eq_true_iff.mp hn with e | e
        · rw [beq_iff_eq.mp e] at q; simp at q
        · exact beq_iff_eq.mp e
      refine wpAny_bind ((looks_subIn X e).here ?_)
      simp only [Bool.false_eq_true, if_false]
      exact wpAny_bind (wpAny_mono one (fun r s' z => tail r s' z) fun _ _ e => e)
    · refine wpAny_bind (wpAny_pure ?_)
      simp only [Bool.false_eq_true, if_false]
      exact wpAny_bind (wpAny_mono one (fun r s' z => tail r s' z) fun _ _ e => e)
end
/-! what declines -/
theorem str_eq_no (y : PySem.Str) (u : Tok) (x C dx : Addr) : Meets (Builtin.«str.__eq__» ⟨[.str y u, .ref x], []⟩) (fun _ R s => s.heap.get? x = some (instObj C dx) ∧ R (.ok (.ret .notImplemented)) s) :=
  .of_wp fun prog w A R s h => by obtain ⟨hp, g, d, tk, os⟩ := s; obtain ⟨hl, h⟩ := h; wp_walk using wpAny_load hl; exact ⟨_, rfl, h⟩
theorem str_ne_no (y : PySem.Str) (u : Tok) (x C dx : Addr) : Meets (Builtin.«str.__ne__» ⟨[.str y u, .ref x], []⟩) (fun _ R s => s.heap.get? x = some (instObj C dx) ∧ R (.ok (.ret .notImplemented)) s) :=
  .of_wp fun prog w A R s h => by obtain ⟨hp, g, d, tk, os⟩ := s; obtain ⟨hl, h⟩ := h; wp_walk using wpAny_load hl; exact ⟨_, rfl, h⟩
theorem list_eq_no (l x : Addr) : Meets (Builtin.«list.__eq__» ⟨[.ref l, .ref x], []⟩) (fun _ R s => (∀ M : Model, Looks M s.heap (isInstance (.ref x) (.type "list")) false) ∧ R (.ok (.ret .notImplemented)) s) :=
  .of_wp fun prog w A R s h => by
    show wpAny _ _ (isInstance (.ref x) (.type "list") >>= fun t => _) _ _ s
    refine wpAny_bind ((h.1 _).here ?_)
    first
      | exact wpAny_pure ⟨_, rfl, h.2⟩
      | exact wpAny_bind (wpAny_pure (wpAny_pure ⟨_, rfl, h.2⟩))
      | exact wpAny_bind (wpAny_pure ⟨_, rfl, h.2⟩)
theorem list_ne_no (l x : Addr) : Meets (Builtin.«list.__ne__» ⟨[.ref l, .ref x], []⟩) (fun _ R s => (∀ M : Model, Looks M s.heap (isInstance (.ref x) (.type "list")) false) ∧ R (.ok (.ret .notImplemented)) s) :=
  .of_wp fun prog w A R s h => by
    show wpAny _ _ (isInstance (.ref x) (.type "list") >>= fun t => _) _ _ s
    refine wpAny_bind ((h.1 _).here ?_)
    first
      | exact wpAny_pure ⟨_, rfl, h.2⟩
      | exact wpAny_bind (wpAny_pure (wpAny_pure ⟨_, rfl, h.2⟩))
      | exact wpAny_bind (wpAny_pure ⟨_, rfl, h.2⟩)
section
variable {prog : Program} {w : World} {A : Around} {E : Value → Shared → Prop} {s : Shared} {K : Frag} {x C dx : Addr} {Q : Option Value → Shared → Prop}
theorem try_str_eq {y : PySem.Str} {u : Tok} (hx : s.heap.get? x = some (instObj C dx)) (q : Q none s) : wpAny (model prog w) A (tryCompare (.str y u) "__eq__" (.ref x)) Q E s := by
  unfold tryCompare
  refine wpAny_bind (wpAny_callSpecialIfBound?_slot (name := "__eq__") (typeIs_str s y u) F.slot_str_eq (call_meets F.slot_str_eq (typeIs_str s y u) F.entry_str_eq (F.args_str_eq_2 _ _) (str_eq_no y u x C dx) ⟨hx, ?_⟩))
  exact wpAny_pure q
theorem try_str_ne {y : PySem.Str} {u : Tok} (hx : s.heap.get? x = some (instObj C dx)) (q : Q none s) : wpAny (model prog w) A (tryCompare (.str y u) "__ne__" (.ref x)) Q E s := by
  unfold tryCompare
  refine wpAny_bind (wpAny_callSpecialIfBound?_slot (name := "__ne__") (typeIs_str s y u) F.slot_str_ne (call_meets F.slot_str_ne (typeIs_str s y u) F.entry_str_ne (F.args_str_ne_2 _ _) (str_ne_no y u x C dx) ⟨hx, ?_⟩))
  exact wpAny_pure q
theorem try_list_eq {l : Addr} (hT : s.TypeIs (.ref l) "list") (hi : ∀ M : Model, Looks M s.heap (isInstance (.ref x) (.type "list")) false) (q : Q none s) : wpAny (model prog w) A (tryCompare (.ref l) "__eq__" (.ref x)) Q E s := by
  unfold tryCompare
  refine wpAny_bind (wpAny_callSpecialIfBound?_slot (name := "__eq__") hT F.slot_list_eq (call_meets F.slot_list_eq hT F.entry_list_eq (F.args_list_eq_2 _ _) (list_eq_no l x) ⟨hi, ?_⟩))
  exact wpAny_pure q
theorem try_list_ne {l : Addr} (hT : s.TypeIs (.ref l) "list") (hi : ∀ M : Model, Looks M s.heap (isInstance (.ref x) (.type "list")) false) (q : Q none s) : wpAny (model prog w) A (tryCompare (.ref l) "__ne__" (.ref x)) Q E s := by
  unfold tryCompare
  refine wpAny_bind (wpAny_callSpecialIfBound?_slot (name := "__ne__") hT F.slot_list_ne (call_meets F.slot_list_ne hT F.entry_list_ne (F.args_list_ne_2 _ _) (list_ne_no l x) ⟨hi, ?_⟩))
  exact wpAny_pure q
end
end Rz

namespace L2
open PySem PySem.Spec PyProof.Rows
/-- what a def that hands NotImplemented over keeps -/
abbrev SpN := List V → Hp → (Hp → Prop) → Prop
structure FnN (P : Program) (w : World) (K : PySem.W.Frag) (mg : Str → Option Value) (base : Heap) (k : Nat) (f : Addr) (fd : FuncData) (ps : List Str) (spN : SpN) : Prop where
  len : ∀ vs H Q, spN vs H Q → vs.length = ps.length
  run : ∀ (A : Around) (outer : List Env) (s : Shared) (H : Hp) (args : Args) (us : List Value) (vs : List V) (Q : Hp → Prop), Room k A → Env0 P w K mg base A outer s H → BindsTo s fd args (ps.zip us) → Vals vs us → spN vs H Q →
    codeAny (model P w) A (.call (.ref f) args) (fun r s' => match r with
      | .ok (.ret u) => u = .notImplemented ∧ CE outer P w H s (fun _ H' => Q H') .none s'
      | _ => False) s
section
variable {P : Program} {w : World} {K : PySem.W.Frag} {mg : Str → Option Value} {base : Heap} {k : Nat} {f : Addr} {x qual : Str} {params : Arguments} {body : List Stmt} {scope : Scope} {dvs : List V} {kws : List (Str × V)} {fd : FuncData} {N ps : List Str} {spN : SpN}
theorem FunD.okN (F : FunD K x qual params body scope dvs kws f fd) (S : FnScope N ps scope) (len : ∀ vs H Q, spN vs H Q → vs.length = ps.length) {c : Expr} {p1 p2 p3 : Pos} {rest : List Stmt}
    (eb : body = .If c [.Return (some (.Name "NotImplemented" p1)) p2] [] p3 :: rest) (hm : mg "NotImplemented" = none) (hg : scope.names.lookup ("NotImplemented" : Str) = some .globalImplicit)
    (hbody : ∀ (cdv : Value) (A : Around) (outer : List Env) (s : Shared) (H : Hp) (vs : List V) (Q : Hp → Prop), Room k (A.deeper (envOfC qual scope s.heap.objs.size f cdv)) → spN vs H Q →
      ∃ tt, PT (cxOf (L2.CX P w) P w K mg base N qual scope f cdv A outer s H E0) c tt ∧ tt (start N vs) H fun b H' => b = true ∧ Q H') : FnN P w K mg base (k + 1) f fd ps spN := by
  obtain ⟨oc, od, dV, kV, doc, pm, an, cdv, ct, osl, rfl, lk, hcd, _, _⟩ := F.ex
  refine ⟨len, fun A outer s H args us vs Q hr e0 hb r hsp => ?_⟩
  have hl := len _ _ _ hsp
  have KX : K.In s.heap := e0.mod.kin.keeps fun b o e => (e0.bs b o e).1
  have lim : s.heap.NoLimit := e0.mod.nolimit.keeps fun b o e => (e0.bs b o e).1
  have hkind : ∀ y ∈ ps.zip us, scope.names.lookup y.1 = some .local ∨ (scope.names.lookup y.1 = some .cell ∧ ((cellsFrom (s.heap.objs.size + 1) scope.names []).lookup y.1).isSome = true) := fun ⟨n, v⟩ hy => by
    rcases S.par n (List.of_mem_zip hy).1 with q | q
    · exact .inl q
    · exact .inr ⟨q, PySem.W.cellsFrom_some _ _ _ (.inl q)⟩
  refine codeAny_call_function hr.depth (KX _ _ lk) rfl S.co S.gen rfl (PySem.W.codeRec_of KX hcd) (hb _ _ _ _ ?_)
  refine wpAny_newFunctionEnv_cells S.kind hkind fun env he s1 y => ?_
  subst he
  refine ⟨lim.keeps y.toInCall.keep, codeAny_func ?_⟩
  obtain ⟨tt, ht, hq⟩ := hbody cdv A outer s H vs Q (hr.deeper _) hsp
  have I : Inv (cxOf (L2.CX P w) P w K mg base N qual scope f cdv A outer s H E0) [] (start N vs) H s1 := inv_start S hr.hd e0 hl r y
  rw [eb]
  have run : wpAny (model P w) (A.deeper (envOfC qual scope s.heap.objs.size f cdv)) (execs (.If c [.Return (some (.Name "NotImplemented" p1)) p2] [] p3 :: rest) (envOfC qual scope s.heap.objs.size f cdv)) (fun fl s' => fl = .ret .notImplemented ∧ ∃ H', Inv (cxOf (L2.CX P w) P w K mg base N qual scope f cdv A outer s H E0) [] (start N vs) H' s' ∧ Q H')
      (cxOf (L2.CX P w) P w K mg base N qual scope f cdv A outer s H E0).xe s1 := by
    refine wpAny_execs_cons (wpAny_If (thn (ht.run [] s1 (start N vs) H _ I hq) fun d s2 ⟨H1, I1, ed, q1⟩ => ?_))
    subst ed
    simp only [if_true]
    refine wpAny_execs_cons (wpAny_Return_some (ld_blt I1 hg hm (by decide +kernel : bootBuiltins "NotImplemented" = some .notImplemented) ?_ (by decide) (by decide)))
    exact ⟨rfl, H1, I1, q1⟩
  refine wpAny_mono run (fun fl s' hs => ?_) fun e s' hs => ?_
  · obtain ⟨rfl, H', J, q⟩ := hs
    exact ⟨rfl, V.non, H', J.os, J.bare, J.base, J.hok, rfl, q⟩
  · refine wpAny_mono hs (fun _ s'' z => ?_) fun _ s'' z => ?_
    · obtain ⟨_, _, _, _, _, _, _, _, _, _, _, _, z⟩ := z
      exact z.elim
    · obtain ⟨_, _, _, _, _, _, _, _, _, _, _, _, z⟩ := z
      exact z.elim
end
section
variable {X : Cx} {CX : CXT} {k : Nat} {f C : Addr} {fd : FuncData} {ps : List Str} {sp : Sp} {spN : SpN} {pins : List (Addr × Obj)} {σ : St} {H : Hp} {s : Shared}
theorem FnN.mono {P : Program} {w : World} {K : PySem.W.Frag} {mg : Str → Option Value} {base : Heap} {j k : Nat} (F : FnN P w K mg base j f fd ps spN) (h : j ≤ k) : FnN P w K mg base k f fd ps spN := ⟨F.len, fun A outer s H args us vs Q hr => F.run A outer s H args us vs Q (hr.mono h)⟩
theorem run_inN {A' : Around} {E1 : Value → Shared → Prop} {Q : Hp → Prop} {us : List Value} {vs : List V} (F : FnN X.prog X.w X.K X.mg X.base k f fd ps spN) (hr : Room k A') (hfr : A'.frames = X.A.frames) (hb : Binds X.K fd ps []) (I : Inv X pins σ H s) (r : Vals vs us) (h : spN vs H Q) :
    wpAny (model X.prog X.w) A' (call (.ref f) us) (fun u s' => u = .notImplemented ∧ ∃ H', Inv X pins σ H' s' ∧ Q H') E1 s := by
  have e0 := I.env0
  have e1 : Env0 X.prog X.w X.K X.mg X.base A' X.stack s H := ⟨hfr.trans e0.frames, e0.mod, e0.bs, e0.bsz, e0.funs, e0.frf, e0.hok, e0.bare⟩
  have hl : (us ++ []).length = ps.length := by rw [List.append_nil]; exact r.length.symm.trans (F.len _ _ _ h)
  refine wpAny_call (codeAny_mono (F.run A' X.stack s H ⟨us, []⟩ (us ++ []) vs Q hr e1 (hb s us I.kIn hl) (by rw [List.append_nil]; exact r) h) ?_)
  intro res s' hq
  match res, hq with
  | .error e, hq => exact hq.elim
  | .ok (.ret u), hq =>
    obtain ⟨rfl, ce⟩ := hq
    obtain ⟨v, H', J, _, q⟩ := I.after ce
    exact ⟨rfl, H', J, q⟩
  | .ok .next, hq => exact hq.elim
  | .ok .brk, hq => exact hq.elim
  | .ok .cont, hq => exact hq.elim
/-- x == y, x != y: x an instance with an own __eq__; y such an instance, or a text, or a list (these decline) -/
def rCmpO (neg : Bool) (C : Addr) (sp : Sp) (spN : SpN) : R2 := fun x y H Q => ∃ a dx fs, x = .ref a ∧ H a = some (.ins C dx fs) ∧
  ((∃ b dy gs, y = .ref b ∧ H b = some (.ins C dy gs) ∧ sp [x, y] H (fun v H' => ∃ r, v = .bl r ∧ Q (.bl (r != neg)) H') E0) ∨
   (((∃ z, y = .str z) ∨ ∃ l xs, y = .ref l ∧ H l = some (.lst xs)) ∧ spN [x, y] H fun H' => (∀ b o, H b = some o → H' b = some o) ∧ Q (.bl neg) H'))
/-- what the head tells of such a class -/
structure EqC (K : PySem.W.Frag) (C : Addr) : Prop where
  ne : PySem.W.findIn K (.ref C) "__ne__" = some (some (.builtin "object.__ne__"))
  ob : PySem.W.subIn K (.ref C) (.type "object") = some true
  li : PySem.W.subIn K (.ref C) (.type "list") = some false
  f1 : PySem.W.notFirst K C (.type "str") = true
  f2 : PySem.W.notFirst K C (.type "list") = true
theorem op_cmpO {op : CmpOp} {neg : Bool} (hop : (op = .Eq ∧ neg = false) ∨ (op = .NotEq ∧ neg = true)) (M : Meth X.K C "__eq__" f) (c : EqC X.K C) (F : FnOk X.prog X.w X.K X.mg X.base CX k f fd ps sp) (FN : FnN X.prog X.w X.K X.mg X.base k f fd ps spN)
    (hr : Room (k + 2) X.A) (hb : Binds X.K fd ps []) (hx : ∀ σ, PassesAt CX X σ E0) : OpR X (compareOp op) (rCmpO neg C sp spN) := by
  intro pins s σ H x y v u Q I rx ry h
  obtain ⟨a, dx, fs, rfl, ea, h⟩ := h
  cases (show v = Value.ref a from rx)
  obtain ⟨od, J⟩ := I.instAt ea
  have X0 := I.kIn
  have iL : ∀ (s' : Shared) (H' : Hp), Inv X pins σ H' s' → H' a = some (.ins C dx fs) → s'.heap.get? a = some (PySem.W.instObj C dx) ∧ ∀ M : Model, PySem.W.Looks M s'.heap (isInstance (.ref a) (.type "list")) false := fun s' H' I' e' => by
    obtain ⟨od', J'⟩ := I'.instAt e'
    exact ⟨J'.at_, fun M => J'.type.andThen (PySem.W.looks_subIn I'.kIn c.li)⟩
  have no : ∀ (l : Addr) (xs : List V), H l = some (.lst xs) → l ≠ a := fun l xs e z => by rw [z, ea] at e; cases e
  -- what the other one is
  have kind : ∃ tb, PySem.W.Looks (model X.prog X.w) s.heap (typeOf u) tb ∧ PySem.W.notFirst X.K C tb = true := by
    rcases h with ⟨b, dy, gs, rfl, eb, _⟩ | ⟨⟨z, rfl⟩ | ⟨l, xs, rfl, el⟩, _⟩
    · cases (show u = Value.ref b from ry)
      obtain ⟨od2, J2⟩ := I.instAt eb
      exact ⟨_, J2.type, by unfold PySem.W.notFirst; simp⟩
    · obtain ⟨t, rfl⟩ := ry
      exact ⟨.type "str", PySem.W.Looks.of_pure rfl, c.f1⟩
    · cases (show u = Value.ref l from ry)
      obtain ⟨its, _, pl, _⟩ := I.list (.inl (.inl el))
      obtain ⟨o, n, e, hc, _⟩ := pl
      exact ⟨.type "list", fun A Q E s k q => wpAny_typeOf_ref (k _ _ e) (by rw [hc]; exact q), c.f2⟩
  obtain ⟨tb, hT, hF⟩ := kind
  -- the own __eq__
  have told : ∀ A' : Around, Room k A' → A'.frames = X.A.frames → wpAny (model X.prog X.w) A' (call (.ref f) [.ref a, u]) (Rz.Told3 (fun r s' => EP X pins σ Q (.bool (r != neg)) s') (fun s' => ((∃ z, y = .str z) ∨ ∃ l xs, y = .ref l ∧ H l = some (.lst xs)) ∧ ∃ H', Inv X pins σ H' s' ∧ (∀ b o, H b = some o → H' b = some o) ∧ Q (.bl neg) H')) X.xe s := by
    intro A' hr' hfr
    rcases h with ⟨b, dy, gs, rfl, eb, q⟩ | ⟨kd, q⟩
    · refine thn (run_in (us := [.ref a, u]) (vs := [.ref a, .ref b]) (dvs := []) (ds := []) F hr' hfr hb .nil (hx σ) I (.cons rfl (.cons ry .nil)) q) fun v2 s2 ⟨z, H2, I2, rz, r, ez, q2⟩ => ?_
      subst ez
      cases (show v2 = Value.bool r from rz)
      exact .inl ⟨r, rfl, .bl (r != neg), H2, I2, rfl, q2⟩
    · refine thn (run_inN (us := [.ref a, u]) (vs := [.ref a, y]) FN hr' hfr hb I (.cons rfl (.cons ry .nil)) q) fun v2 s2 ⟨e2, H2, I2, k2, q2⟩ => ?_
      exact .inr ⟨e2, kd, H2, I2, k2, q2⟩
  have r1 : Room k X.A := hr.mono (by omega)
  have r2 : Room k X.A.in1 := (show Room (k + 1) X.A.in1 from Room.in1 hr).mono (by omega)
  -- both decline
  have both : ∀ (nm : Str), (nm = "__eq__" ∨ nm = "__ne__") → ∀ s', ((∃ z, y = .str z) ∨ ∃ l xs, y = .ref l ∧ H l = some (.lst xs)) ∧ (∃ H', Inv X pins σ H' s' ∧ (∀ b o, H b = some o → H' b = some o) ∧ Q (.bl neg) H') →
      wpAny (model X.prog X.w) X.A (tryCompare u nm (.ref a)) (fun r2 s2 => r2 = none ∧ wpAny (model X.prog X.w) X.A (isSame (.ref a) u) (fun kk s3 => kk = false ∧ EP X pins σ Q (.bool neg) s3) X.xe s2) X.xe s' := by
    rintro nm hnm s' ⟨kd, H', I', k', q'⟩
    obtain ⟨g1, g2⟩ := iL s' H' I' (k' _ _ ea)
    rcases kd with ⟨z, rfl⟩ | ⟨l, xs, rfl, el⟩
    · obtain ⟨t, rfl⟩ := ry
      have fin : wpAny (model X.prog X.w) X.A (isSame (.ref a) (.str z t)) (fun kk s3 => kk = false ∧ EP X pins σ Q (.bool neg) s3) X.xe s' := wpAny_of_eq (rfl : isSame (.ref a) (.str z t) = pure false) ⟨rfl, .bl neg, H', I', rfl, q'⟩
      rcases hnm with rfl | rfl
      · exact Rz.try_str_eq g1 ⟨rfl, fin⟩
      · exact Rz.try_str_ne g1 ⟨rfl, fin⟩
    · cases (show u = Value.ref l from ry)
      obtain ⟨its, _, pl, _⟩ := I'.list (.inl (.inl (k' _ _ el)))
      have hT := pl.isList.typeIs
      obtain ⟨o, n, e, hc, _⟩ := pl
      have fin : wpAny (model X.prog X.w) X.A (isSame (.ref a) (.ref l)) (fun kk s3 => kk = false ∧ EP X pins σ Q (.bool neg) s3) X.xe s' :=
        wpAny_isSame_ref_other (Ne.symm (no l xs el)) g1 e (fun z => nomatch z) ⟨rfl, .bl neg, H', I', rfl, q'⟩
      rcases hnm with rfl | rfl
      · exact Rz.try_list_eq hT g2 ⟨rfl, fin⟩
      · exact Rz.try_list_ne hT g2 ⟨rfl, fin⟩
  rcases hop with ⟨rfl, rfl⟩ | ⟨rfl, rfl⟩
  · show wpAny _ X.A (richCompare .Eq (.ref a) u) _ _ s
    refine Rz.rich_two (nm := "__eq__") (.inl ⟨rfl, rfl⟩) hr.units0 X0 J hT hF ?_
    refine Rz.try_eq X0 J M.at_ M.fn (told X.A r1 rfl) (fun r s' z => .inl ⟨_, rfl, ?_⟩) fun s' z => .inr ⟨rfl, both _ (.inl rfl) s' z⟩
    rw [show (r != false) = r by cases r <;> rfl] at z
    exact z
  · show wpAny _ X.A (richCompare .NotEq (.ref a) u) _ _ s
    refine Rz.rich_two (nm := "__ne__") (.inr ⟨rfl, rfl⟩) hr.units0 X0 J hT hF ?_
    refine Rz.try_ne (by have := hr.un; omega) X0 J M.at_ M.fn c.ne c.ob (told X.A.in1 r2 rfl) (fun r s' z => .inl ⟨_, rfl, ?_⟩) fun s' z => .inr ⟨rfl, both _ (.inr rfl) s' z⟩
    rw [show (r != true) = !r by cases r <;> rfl] at z
    exact z
/-- x < y of two instances by an own __lt__ -/
def rLtO (C : Addr) (sp : Sp) : R2 := fun x y H Q => ∃ a dx fs b dy gs, x = .ref a ∧ y = .ref b ∧ H a = some (.ins C dx fs) ∧ H b = some (.ins C dy gs) ∧ sp [x, y] H Q E0
theorem op_ltO (M : Meth X.K C "__lt__" f) (F : FnOk X.prog X.w X.K X.mg X.base CX k f fd ps sp) (hr : Room k X.A) (hb : Binds X.K fd ps []) (hx : ∀ σ, PassesAt CX X σ E0) : OpR X (compareOp .Lt) (rLtO C sp) := by
  intro pins s σ H x y v u Q I rx ry h
  obtain ⟨a, dx, fs, b, dy, gs, rfl, rfl, ea, eb, q⟩ := h
  cases (show v = Value.ref a from rx)
  cases (show u = Value.ref b from ry)
  obtain ⟨od, J⟩ := I.instAt ea
  obtain ⟨od2, J2⟩ := I.instAt eb
  obtain ⟨m, hF⟩ := I.fr
  show wpAny _ X.A (richCompare .Lt (.ref a) (.ref b)) _ _ s
  refine PySem.W.cmp_K (op := .Lt) (tb := .ref C) hr.units0 hF I.ok.mod.kin J J2.type (by unfold PySem.W.notFirst; simp) M.at_ M.fn ?_
  refine thn (run_in (us := [.ref a, .ref b]) (vs := [.ref a, .ref b]) (dvs := []) (ds := []) F hr rfl hb .nil (hx σ) I (.cons rfl (.cons rfl .nil)) q) fun w s' z => ?_
  obtain ⟨z', H', I', rz, qz⟩ := z
  exact SlX.cmpback rz ⟨z', H', I', rz, qz⟩
/-- x < y of data that are alike -/
def rLtD (K : PySem.W.Frag) : R2 := fun x y H Q => ∃ d e, Dp K H x d ∧ Dp K H y e ∧ PySem.W.alike d e = true ∧ d ≠ .none ∧ d.depth ≤ 40 ∧ Q (.bl (PySem.W.dataLt d e)) H
theorem op_ltD (hu : X.A.units + 64 < cLine) : OpR X (compareOp .Lt) (rLtD X.K) := by
  intro pins s σ H x y v u Q I rx ry h
  obtain ⟨d, e, hd, he, al, nn, dp, q⟩ := h
  obtain ⟨as, r1⟩ := Dp.reads I d x v hd rx
  obtain ⟨bs, r2⟩ := Dp.reads I e y u he ry
  exact PySem.W.lt_data r1 r2 al nn (by have := Nat.min_le_left d.depth e.depth; omega) ⟨.bl _, H, I, rfl, q⟩
end
end L2

namespace Rz
open PySem PySem.Spec PyProof.Rows L2 He
def eqcB (C : PySem.Str) : Fg → Bool := fun K => eqO (PySem.W.findIn K (.ref (ga K C)) "__ne__") (some (some (.builtin "object.__ne__"))) && (decide (PySem.W.subIn K (.ref (ga K C)) (.type "object") = some true) &&
  (decide (PySem.W.subIn K (.ref (ga K C)) (.type "list") = some false) && (PySem.W.notFirst K (ga K C) (.type "str") && PySem.W.notFirst K (ga K C) (.type "list"))))
theorem eqcB_ok {C : PySem.Str} {K : Fg} (h : eqcB C K = true) : EqC K (ga K C) := by
  obtain ⟨h1, h⟩ := ba h
  obtain ⟨h2, h⟩ := ba h
  obtain ⟨h3, h⟩ := ba h
  obtain ⟨h4, h5⟩ := ba h
  exact ⟨eqO_ok h1, of_decide_eq_true h2, of_decide_eq_true h3, h4, h5⟩
end Rz

namespace Lw
open PySem PySem.Spec PyProof.Rows L2
def top (i : Nat) : Stmt := PySem.Challenge.pw_risensigns_k03_rows_compared.main.body.getD i (.Pass ⟨0, 0, 0, 0⟩)
abbrev PROG : Program := PySem.Challenge.pw_risensigns_k03_rows_compared
abbrev s_law_pool : Stmt := top 15
abbrev s_law_pick : Stmt := top 16
abbrev s_law_row_of : Stmt := top 19
abbrev s_law_near : Stmt := top 22
abbrev s_law_odd_sign : Stmt := top 21
abbrev s_law_string_of : Stmt := top 23
abbrev s_as_string : Stmt := top 10
abbrev s_check_text : Stmt := top 11
abbrev s_Row_init : Stmt := inClass (top 13) 0
abbrev s_law_as_row : Stmt := top 20
abbrev s_law_is : Stmt := top 24
abbrev s_Row_eq : Stmt := inClass (top 13) 5
abbrev s_Row_lt : Stmt := inClass (top 13) 6
abbrev s_Row_signs : Stmt := inClass (top 13) 1
abbrev s_Row_contains : Stmt := inClass (top 13) 10
abbrev s_Row_heights : Stmt := inClass (top 13) 2
abbrev s_Row_iter : Stmt := inClass (top 13) 4
abbrev s_Row_len : Stmt := inClass (top 13) 3
abbrev s_law_is_int : Stmt := top 17
abbrev s_Row_abs : Stmt := inClass (top 13) 11
abbrev s_law_shows : Stmt := top 18
abbrev s_law : Stmt := top 25
abbrev s_BadSign_init : Stmt := inClass (top 3) 0
abbrev s_Uneven_init : Stmt := inClass (top 4) 0
abbrev s_BadHeight_init : Stmt := inClass (top 5) 0
structure Txt (P : Program) (K : Frg) (mg : Str → Option Value) : Prop where
  f_abs : mg "abs" = none
  f_int : mg "int" = none
  f_range : mg "range" = none
  F_law_pool : ∃ fd, FunD K "_law_pool" "_law_pool" (defArgs s_law_pool) (defBody s_law_pool) (defScope s_law_pool) [] [] (Rz.pG "_law_pool" K) fd
  g__law_pool : mg "_law_pool" = some (.ref (He.ga K "_law_pool"))
  F_law_pick : ∃ fd, FunD K "_law_pick" "_law_pick" (defArgs s_law_pick) (defBody s_law_pick) (defScope s_law_pick) [] [] (Rz.pG "_law_pick" K) fd
  g__law_pick : mg "_law_pick" = some (.ref (He.ga K "_law_pick"))
  F_law_row_of : ∃ fd, FunD K "_law_row_of" "_law_row_of" (defArgs s_law_row_of) (defBody s_law_row_of) (defScope s_law_row_of) [] [] (Rz.pG "_law_row_of" K) fd
  g__law_row_of : mg "_law_row_of" = some (.ref (He.ga K "_law_row_of"))
  f_len : mg "len" = none
  f_list : mg "list" = none
  F_law_near : ∃ fd, FunD K "_law_near" "_law_near" (defArgs s_law_near) (defBody s_law_near) (defScope s_law_near) [] [] (Rz.pG "_law_near" K) fd
  g__law_near : mg "_law_near" = some (.ref (He.ga K "_law_near"))
  F_law_odd_sign : ∃ fd, FunD K "_law_odd_sign" "_law_odd_sign" (defArgs s_law_odd_sign) (defBody s_law_odd_sign) (defScope s_law_odd_sign) [] [] (Rz.pG "_law_odd_sign" K) fd
  g__law_odd_sign : mg "_law_odd_sign" = some (.ref (He.ga K "_law_odd_sign"))
  F_law_string_of : ∃ fd, FunD K "_law_string_of" "_law_string_of" (defArgs s_law_string_of) (defBody s_law_string_of) (defScope s_law_string_of) [] [] (Rz.pG "_law_string_of" K) fd
  g__law_string_of : mg "_law_string_of" = some (.ref (He.ga K "_law_string_of"))
  ty_Row : C8.InsC K (He.ga K "Row")
  i_str_Row : PySem.W.kitOne K (.type "str") (.ref (He.ga K "Row")) = some false
  i_list_Row : PySem.W.kitOne K (.type "list") (.ref (He.ga K "Row")) = some false
  i_Row_str : PySem.W.kitOne K (.ref (He.ga K "Row")) (.type "str") = some false
  f_bytes : mg "bytes" = none
  f_isinstance : mg "isinstance" = none
  F_as_string : ∃ fd, FunD K "as_string" "as_string" (defArgs s_as_string) (defBody s_as_string) (defScope s_as_string) [] [] (Rz.pG "as_string" K) fd
  g_as_string : mg "as_string" = some (.ref (He.ga K "as_string"))
  f_enumerate : mg "enumerate" = none
  k_SIGNS : ∃ t, mg "SIGNS" = some (.str "abcdefghijklmnopqrstuvwxyz" t)
  xb_BadSign : Rz.ExC K (He.ga K "BadSign") ∧ XfC K (He.ga K "BadSign")
  n_BadSign_at : NoAttr K (He.ga K "BadSign") "at"
  x_BadSign : Rz.ExOne P K (He.ga K "BadSign") "at"
  f_super : mg "super" = none
  g_BadSign : mg "BadSign" = some (.ref (He.ga K "BadSign"))
  F_check_text : ∃ fd, FunD K "check_text" "check_text" (defArgs s_check_text) (defBody s_check_text) (defScope s_check_text) [] [] (Rz.pG "check_text" K) fd
  g_check_text : mg "check_text" = some (.ref (He.ga K "check_text"))
  xb_Uneven : Rz.ExC K (He.ga K "Uneven") ∧ XfC K (He.ga K "Uneven")
  x_Uneven : Rz.ExZero P K (He.ga K "Uneven")
  g_Uneven : mg "Uneven" = some (.ref (He.ga K "Uneven"))
  k_TOP : ∃ t, mg "TOP" = some (.int 9 t)
  xb_BadHeight : Rz.ExC K (He.ga K "BadHeight") ∧ XfC K (He.ga K "BadHeight")
  n_BadHeight_height : NoAttr K (He.ga K "BadHeight") "height"
  x_BadHeight : Rz.ExOne P K (He.ga K "BadHeight") "height"
  g_BadHeight : mg "BadHeight" = some (.ref (He.ga K "BadHeight"))
  f_zip : mg "zip" = none
  n_Row_pairs : NoAttr K (He.ga K "Row") "pairs"
  c_Row : Cls K (He.ga K "Row")
  F_Row_init : ∃ fd, FunD K "__init__" "Row.__init__" (defArgs s_Row_init) (defBody s_Row_init) (defScope s_Row_init) [.str "", .non] [] (Rz.pM "Row" "__init__" K) fd
  mk_Row : Mk K (He.ga K "Row") (Rz.pM "Row" "__init__" K)
  g_Row : mg "Row" = some (.ref (He.ga K "Row"))
  F_law_as_row : ∃ fd, FunD K "_law_as_row" "_law_as_row" (defArgs s_law_as_row) (defBody s_law_as_row) (defScope s_law_as_row) [] [] (Rz.pG "_law_as_row" K) fd
  g__law_as_row : mg "_law_as_row" = some (.ref (He.ga K "_law_as_row"))
  f_bool : mg "bool" = none
  F_law_is : ∃ fd, FunD K "_law_is" "_law_is" (defArgs s_law_is) (defBody s_law_is) (defScope s_law_is) [] [] (Rz.pG "_law_is" K) fd
  F_Row_eq : ∃ fd, FunD K "__eq__" "Row.__eq__" (defArgs s_Row_eq) (defBody s_Row_eq) (defScope s_Row_eq) [] [] (Rz.pM "Row" "__eq__" K) fd
  f_NotImplemented : mg "NotImplemented" = none
  m_Row___eq__ : Meth K (He.ga K "Row") "__eq__" (Rz.pM "Row" "__eq__" K)
  eqc_Row : EqC K (He.ga K "Row")
  g__law_is : mg "_law_is" = some (.ref (He.ga K "_law_is"))
  F_Row_lt : ∃ fd, FunD K "__lt__" "Row.__lt__" (defArgs s_Row_lt) (defBody s_Row_lt) (defScope s_Row_lt) [] [] (Rz.pM "Row" "__lt__" K) fd
  m_Row___lt__ : Meth K (He.ga K "Row") "__lt__" (Rz.pM "Row" "__lt__" K)
  f_str : mg "str" = none
  F_Row_signs : ∃ fd, FunD K "signs" "Row.signs" (defArgs s_Row_signs) (defBody s_Row_signs) (defScope s_Row_signs) [] [] (Rz.pP "Row" "signs" K) fd
  p_Row_signs : PropOf K (He.ga K "Row") "signs" (Rz.recAt "Row" "signs" K) (Rz.pP "Row" "signs" K)
  f_any : mg "any" = none
  F_Row_contains : ∃ fd, FunD K "__contains__" "Row.__contains__" (defArgs s_Row_contains) (defBody s_Row_contains) (defScope s_Row_contains) [] [] (Rz.pM "Row" "__contains__" K) fd
  m_Row___contains__ : Meth K (He.ga K "Row") "__contains__" (Rz.pM "Row" "__contains__" K)
  F_Row_heights : ∃ fd, FunD K "heights" "Row.heights" (defArgs s_Row_heights) (defBody s_Row_heights) (defScope s_Row_heights) [] [] (Rz.pP "Row" "heights" K) fd
  p_Row_heights : PropOf K (He.ga K "Row") "heights" (Rz.recAt "Row" "heights" K) (Rz.pP "Row" "heights" K)
  f_iter : mg "iter" = none
  F_Row_iter : ∃ fd, FunD K "__iter__" "Row.__iter__" (defArgs s_Row_iter) (defBody s_Row_iter) (defScope s_Row_iter) [] [] (Rz.pM "Row" "__iter__" K) fd
  F_Row_len : ∃ fd, FunD K "__len__" "Row.__len__" (defArgs s_Row_len) (defBody s_Row_len) (defScope s_Row_len) [] [] (Rz.pM "Row" "__len__" K) fd
  m_Row___iter__ : Meth K (He.ga K "Row") "__iter__" (Rz.pM "Row" "__iter__" K)
  m_Row___len__ : Meth K (He.ga K "Row") "__len__" (Rz.pM "Row" "__len__" K)
  f_tuple : mg "tuple" = none
  F_law_is_int : ∃ fd, FunD K "_law_is_int" "_law_is_int" (defArgs s_law_is_int) (defBody s_law_is_int) (defScope s_law_is_int) [] [] (Rz.pG "_law_is_int" K) fd
  g__law_is_int : mg "_law_is_int" = some (.ref (He.ga K "_law_is_int"))
  f_max : mg "max" = none
  F_Row_abs : ∃ fd, FunD K "__abs__" "Row.__abs__" (defArgs s_Row_abs) (defBody s_Row_abs) (defScope s_Row_abs) [] [] (Rz.pM "Row" "__abs__" K) fd
  m_Row___abs__ : Meth K (He.ga K "Row") "__abs__" (Rz.pM "Row" "__abs__" K)
  F_law_shows : ∃ fd, FunD K "_law_shows" "_law_shows" (defArgs s_law_shows) (defBody s_law_shows) (defScope s_law_shows) [] [] (Rz.pG "_law_shows" K) fd
  g__law_shows : mg "_law_shows" = some (.ref (He.ga K "_law_shows"))
  F_law : ∃ fd, FunD K "law" "law" (defArgs s_law) (defBody s_law) (defScope s_law) [] [] (Rz.pG "law" K) fd
  g_law : mg "law" = some (.ref (He.ga K "law"))
def fa0 : List (Rz.Fg → Bool) := [
  fun K => (He.Fa.free "abs").ok K,
  fun K => (He.Fa.free "int").ok K,
  fun K => (He.Fa.free "range").ok K,
  fun K => (He.Fa.glo "_law_pool").ok K,
  fun K => (He.Fa.glo "_law_pick").ok K,
  fun K => (He.Fa.glo "_law_row_of").ok K,
  fun K => (He.Fa.free "len").ok K,
  fun K => (He.Fa.free "list").ok K,
  fun K => (He.Fa.glo "_law_near").ok K,
  fun K => (He.Fa.glo "_law_odd_sign").ok K,
  fun K => (He.Fa.glo "_law_string_of").ok K,
  Rz.tyB "Row",
  Rz.kitTC "str" "Row" false,
  Rz.kitTC "list" "Row" false,
  Rz.kitCT "Row" "str" false,
  fun K => (He.Fa.free "bytes").ok K,
  fun K => (He.Fa.free "isinstance").ok K,
  fun K => (He.Fa.glo "as_string").ok K,
  fun K => (He.Fa.free "enumerate").ok K,
  fun K => (He.Fa.str "SIGNS" "abcdefghijklmnopqrstuvwxyz").ok K,
  Rz.excB "BadSign",
  fun K => (He.Fa.noat "BadSign" "at").ok K,
  Rz.iniB PROG "BadSign",
  fun K => (He.Fa.free "super").ok K,
  fun K => (He.Fa.glo "BadSign").ok K,
  fun K => (He.Fa.glo "check_text").ok K,
  Rz.excB "Uneven",
  Rz.iniB PROG "Uneven",
  fun K => (He.Fa.glo "Uneven").ok K,
  fun K => (He.Fa.int "TOP" 9).ok K,
  Rz.excB "BadHeight",
  fun K => (He.Fa.noat "BadHeight" "height").ok K,
  Rz.iniB PROG "BadHeight",
  fun K => (He.Fa.glo "BadHeight").ok K,
  fun K => (He.Fa.free "zip").ok K,
  fun K => (He.Fa.noat "Row" "pairs").ok K,
  fun K => (He.Fa.cls "Row").ok K,
  fun K => (He.Fa.mkr "Row").ok K,
  fun K => (He.Fa.glo "Row").ok K,
  fun K => (He.Fa.glo "_law_as_row").ok K,
  fun K => (He.Fa.free "bool").ok K,
  fun K => (He.Fa.free "NotImplemented").ok K,
  fun K => (He.Fa.meth "Row" "__eq__").ok K,
  Rz.eqcB "Row",
  fun K => (He.Fa.glo "_law_is").ok K,
  fun K => (He.Fa.meth "Row" "__lt__").ok K,
  fun K => (He.Fa.free "str").ok K,
  Rz.propB "Row" "signs"]
def fa1 : List (Rz.Fg → Bool) := [
  fun K => (He.Fa.free "any").ok K,
  fun K => (He.Fa.meth "Row" "__contains__").ok K,
  Rz.propB "Row" "heights",
  fun K => (He.Fa.free "iter").ok K,
  fun K => (He.Fa.meth "Row" "__iter__").ok K,
  fun K => (He.Fa.meth "Row" "__len__").ok K,
  fun K => (He.Fa.free "tuple").ok K,
  fun K => (He.Fa.glo "_law_is_int").ok K,
  fun K => (He.Fa.free "max").ok K,
  fun K => (He.Fa.meth "Row" "__abs__").ok K,
  fun K => (He.Fa.glo "_law_shows").ok K,
  fun K => (He.Fa.glo "law").ok K]
def d_law_pool : Rz.Dq := ⟨Rz.pG "_law_pool", "_law_pool", "_law_pool", defArgs s_law_pool, defBody s_law_pool, defScope s_law_pool, [], [], []⟩
def d_law_pick : Rz.Dq := ⟨Rz.pG "_law_pick", "_law_pick", "_law_pick", defArgs s_law_pick, defBody s_law_pick, defScope s_law_pick, [], [], []⟩
def d_law_row_of : Rz.Dq := ⟨Rz.pG "_law_row_of", "_law_row_of", "_law_row_of", defArgs s_law_row_of, defBody s_law_row_of, defScope s_law_row_of, [], [], []⟩
def d_law_near : Rz.Dq := ⟨Rz.pG "_law_near", "_law_near", "_law_near", defArgs s_law_near, defBody s_law_near, defScope s_law_near, [], [], []⟩
def d_law_odd_sign : Rz.Dq := ⟨Rz.pG "_law_odd_sign", "_law_odd_sign", "_law_odd_sign", defArgs s_law_odd_sign, defBody s_law_odd_sign, defScope s_law_odd_sign, [], [], []⟩
def d_law_string_of : Rz.Dq := ⟨Rz.pG "_law_string_of", "_law_string_of", "_law_string_of", defArgs s_law_string_of, defBody s_law_string_of, defScope s_law_string_of, [], [], []⟩
def d_as_string : Rz.Dq := ⟨Rz.pG "as_string", "as_string", "as_string", defArgs s_as_string, defBody s_as_string, defScope s_as_string, [], [], []⟩
def d_check_text : Rz.Dq := ⟨Rz.pG "check_text", "check_text", "check_text", defArgs s_check_text, defBody s_check_text, defScope s_check_text, [], [], []⟩
def d_Row_init : Rz.Dq := ⟨Rz.pM "Row" "__init__", "__init__", "Row.__init__", defArgs s_Row_init, defBody s_Row_init, defScope s_Row_init, [], [.str "", .non], []⟩
def d_law_as_row : Rz.Dq := ⟨Rz.pG "_law_as_row", "_law_as_row", "_law_as_row", defArgs s_law_as_row, defBody s_law_as_row, defScope s_law_as_row, [], [], []⟩
def d_law_is : Rz.Dq := ⟨Rz.pG "_law_is", "_law_is", "_law_is", defArgs s_law_is, defBody s_law_is, defScope s_law_is, [], [], []⟩
def d_Row_eq : Rz.Dq := ⟨Rz.pM "Row" "__eq__", "__eq__", "Row.__eq__", defArgs s_Row_eq, defBody s_Row_eq, defScope s_Row_eq, [], [], []⟩
def d_Row_lt : Rz.Dq := ⟨Rz.pM "Row" "__lt__", "__lt__", "Row.__lt__", defArgs s_Row_lt, defBody s_Row_lt, defScope s_Row_lt, [], [], []⟩
def d_Row_signs : Rz.Dq := ⟨Rz.pP "Row" "signs", "signs", "Row.signs", defArgs s_Row_signs, defBody s_Row_signs, defScope s_Row_signs, [], [], []⟩
def d_Row_contains : Rz.Dq := ⟨Rz.pM "Row" "__contains__", "__contains__", "Row.__contains__", defArgs s_Row_contains, defBody s_Row_contains, defScope s_Row_contains, [], [], []⟩
def d_Row_heights : Rz.Dq := ⟨Rz.pP "Row" "heights", "heights", "Row.heights", defArgs s_Row_heights, defBody s_Row_heights, defScope s_Row_heights, [], [], []⟩
def d_Row_iter : Rz.Dq := ⟨Rz.pM "Row" "__iter__", "__iter__", "Row.__iter__", defArgs s_Row_iter, defBody s_Row_iter, defScope s_Row_iter, [], [], []⟩
def d_Row_len : Rz.Dq := ⟨Rz.pM "Row" "__len__", "__len__", "Row.__len__", defArgs s_Row_len, defBody s_Row_len, defScope s_Row_len, [], [], []⟩
def d_law_is_int : Rz.Dq := ⟨Rz.pG "_law_is_int", "_law_is_int", "_law_is_int", defArgs s_law_is_int, defBody s_law_is_int, defScope s_law_is_int, [], [], []⟩
def d_Row_abs : Rz.Dq := ⟨Rz.pM "Row" "__abs__", "__abs__", "Row.__abs__", defArgs s_Row_abs, defBody s_Row_abs, defScope s_Row_abs, [], [], []⟩
def d_law_shows : Rz.Dq := ⟨Rz.pG "_law_shows", "_law_shows", "_law_shows", defArgs s_law_shows, defBody s_law_shows, defScope s_law_shows, [], [], []⟩
def d_law : Rz.Dq := ⟨Rz.pG "law", "law", "law", defArgs s_law, defBody s_law, defScope s_law, [], [], []⟩
def d_BadSign_init : Rz.Dq := ⟨Rz.pM "BadSign" "__init__", "__init__", "BadSign.__init__", defArgs s_BadSign_init, defBody s_BadSign_init, defScope s_BadSign_init, ["__class__"], [], []⟩
def d_Uneven_init : Rz.Dq := ⟨Rz.pM "Uneven" "__init__", "__init__", "Uneven.__init__", defArgs s_Uneven_init, defBody s_Uneven_init, defScope s_Uneven_init, ["__class__"], [], []⟩
def d_BadHeight_init : Rz.Dq := ⟨Rz.pM "BadHeight" "__init__", "__init__", "BadHeight.__init__", defArgs s_BadHeight_init, defBody s_BadHeight_init, defScope s_BadHeight_init, ["__class__"], [], []⟩
def fn0 : List Rz.Dq := [d_law_pool, d_law_pick, d_law_row_of, d_law_near, d_law_odd_sign, d_law_string_of, d_as_string, d_check_text, d_Row_init, d_law_as_row, d_law_is, d_Row_eq, d_Row_lt, d_Row_signs]
def fn1 : List Rz.Dq := [d_Row_contains, d_Row_heights, d_Row_iter, d_Row_len, d_law_is_int, d_Row_abs, d_law_shows, d_law, d_BadSign_init, d_Uneven_init, d_BadHeight_init]
def fa : List (Rz.Fg → Bool) := fa0 ++ fa1
def fn : List Rz.Dq := fn0 ++ fn1
abbrev R : PySem.W.OpenRow := PySem.W.OpenLaw.row PySem.Challenge.rw_risensigns_k03_rows_compared
abbrev hk : PySem.W.Hook := Rz.hookR 6 fa fn
def ob (s : PySem.W.SharedT) : Rz.AlR := Rz.obsRG 6 fa fn (HandSHeadRun.getT s)
theorem ob_eq (s : PySem.W.SharedT) : ob s = hk.obs s.abs := Rz.obsRG_eq (HandSHeadRun.getT_eq s)
def loose0 : List PySem.Str := ["_wall", "RiseError", "BadSign", "Uneven", "BadHeight", "NoPlace", "TOP", "SIGNS", "as_string", "check_text", "is_sign", "Row", "_law_pool", "_law_pick", "_law_is_int", "_law_shows", "_law_row_of", "_law_as_row", "_law_odd_sign", "_law_near"]
def loose1 : List PySem.Str := ["_law_string_of", "_law_is"]
def loose : List PySem.Str := loose0 ++ loose1
theorem runL (w : World) : Rz.LkEq R 6000 w := by
  intro os
  kernel_rfl
theorem runS (w : World) : Rz.SnEq R (PySem.W.view R.prog [25]) 6000 loose w := by
  intro os
  kernel_rfl
theorem run0 (w : World) : Rz.ObEq R 6000 6 fa0 fn0 w := by
  intro os
  kernel_rfl
theorem run1 (w : World) : Rz.ObEq R 6000 6 fa1 fn1 w := by
  intro os
  kernel_rfl
theorem run (w : World) : HandSHeadRun.RunEq R (PySem.W.view R.prog [25]) hk ob 6000 loose w := Rz.run_all (runL w) (runS w) (Rz.ObEq.app (run0 w) (run1 w))
section
variable {w : World} {K : Frg} {mg : Str → Option Value} {base : Heap}
/-! _law_pool -/
abbrev N_law_pool : List Str := ["_law_script", "_law_draws", "_law_seed", "_law_cell", "_law_k", "_law_rest", "_law_value"]
def t_law_pool (K : Frg) (E : XK) : TS :=
  (tSeq (tAsg (tLst tNil) (gName 1)) (tSeq (tAsg (tC (.int 0)) (gName 2)) (tSeq (tFor (iList K (tVar 0)) (gName 3) (tSeq (tAsg (tCB (rAbsA) (tCons (tVar 3) tNil)) (gName 5)) (tSeq (tAsg (tOp rModA (tCB (rIntA) (tCons (tOp rAddA (tOp rMulA (tVar 2) (tC (.int 31))) (tVar 5)) tNil)) (tC (.int 1009))) (gName 2)) (tIfS (tTest (tOp rLtA (tVar 5) (tOp rPowA (tC (.int 10)) (tC (.int 18))))) (tDrop (tBM K "list" rAppend (tVar 1) (tCons (tVar 5) tNil))) (tFor (iRng1 (tCons (tC (.int 60)) tNil)) (gName 4) (tIfS (tTest (tOp rGtA (tVar 5) (tC (.int 0)))) (tSeq (tDrop (tBM K "list" rAppend (tVar 1) (tCons (tOp rModA (tCB (rIntA) (tCons (tVar 5) tNil)) (tC (.int 1000))) tNil))) (tAsg (tOp rDivA (tVar 5) (tC (.int 1000))) (gName 5))) tNext)))))) (tSeq (tFor (iRng1 (tCons (tC (.int 90)) tNil)) (gName 4) (tSeq (tAsg (tOp rModA (tCB (rIntA) (tCons (tOp rMulA (tOp rAddA (tVar 2) (tC (.int 1))) (tOp rAddA (tOp rDivA (tOp rAddA (tOp rMulA (tOp rMulA (tC (.int 3)) (tVar 4)) (tVar 4)) (tOp rMulA (tC (.int 5)) (tVar 4))) (tC (.int 2))) (tC (.int 7)))) tNil)) (tC (.int 1009))) (gName 6)) (tDrop (tBM K "list" rAppend (tVar 1) (tCons (tOp rModA (tCB (rIntA) (tCons (tOp rAddA (tOp rMulA (tVar 6) (tVar 6)) (tVar 4)) tNil)) (tC (.int 1013))) tNil))))) (tRet (tVar 1))))))
def sp_law_pool (K : Frg) : Sp := fun vs H Q E => vs.length = 1 ∧ t_law_pool K E { nx := fun _ H' => Q .non H', rt := Q } (start N_law_pool vs) H
theorem sc_law_pool : FnScope N_law_pool ["_law_script"] (defScope s_law_pool) := ⟨rfl, rfl, rfl, by decide +kernel, rfl, by decide +kernel, by decide +kernel⟩
theorem ok_law_pool (T : Txt PROG K mg) : ∃ fd, FnOk PROG w K mg base (L2.CX PROG w) 1 (Rz.pG "_law_pool" K) fd ["_law_script"] (sp_law_pool K) ∧ FunD K "_law_pool" "_law_pool" (defArgs s_law_pool) (defBody s_law_pool) (defScope s_law_pool) [] [] (Rz.pG "_law_pool" K) fd := by
  obtain ⟨fd, F⟩ := T.F_law_pool
  refine ⟨fd, F.ok sc_law_pool (fun vs H Q E h => h.1) (fun cdv A outer s H vs Q E hr h => ⟨t_law_pool K E, ?_, h.2⟩), F⟩
  exact (pss_cons (ps_set (i := 1) sc_law_pool.nd rfl (by first | exact Or.inl rfl | exact Or.inr rfl) (pe_lst pa_nil)) (pss_cons (ps_set (i := 2) sc_law_pool.nd rfl (by first | exact Or.inl rfl | exact Or.inr rfl) pe_int) (pss_cons (ps_for (passes_of rfl) rfl (pi_list (pv 0)) (pg_name (i := 3) sc_law_pool.nd rfl (by first | exact Or.inl rfl | exact Or.inr rfl)) (pss_cons (ps_set (i := 5) sc_law_pool.nd rfl (by first | exact Or.inl rfl | exact Or.inr rfl) (pe_callB c_abs rfl T.f_abs (by decide +kernel) (pa_cons (pv 3) pa_nil))) (pss_cons (ps_set (i := 2) sc_law_pool.nd rfl (by first | exact Or.inl rfl | exact Or.inr rfl) (pe_op op_modA (pe_callTy c_int rfl T.f_int (by decide +kernel) (pa_cons (pe_op op_addA (pe_op op_mulA (pv 2) pe_int) (pv 5)) pa_nil)) pe_int)) (pss_one (ps_if (pt_cmpR op_ltA (pv 5) (pe_op op_powA pe_int pe_int) (nomark _)) (pss_one (ps_expr (pe_bm PySem.F.plainAttrs_list PySem.F.slot_list_append PySem.F.type_list_append mt_append (pv 1) (pa_cons (pv 5) pa_nil)))) (pss_one (ps_for (passes_of rfl) rfl (pi_range1 rfl T.f_range (pa_cons pe_int pa_nil)) (pg_name (i := 4) sc_law_pool.nd rfl (by first | exact Or.inl rfl | exact Or.inr rfl)) (pss_one (ps_if (pt_cmpR op_gtA (pv 5) pe_int (nomark _)) (pss_cons (ps_expr (pe_bm PySem.F.plainAttrs_list PySem.F.slot_list_append PySem.F.type_list_append mt_append (pv 1) (pa_cons (pe_op op_modA (pe_callTy c_int rfl T.f_int (by decide +kernel) (pa_cons (pv 5) pa_nil)) pe_int) pa_nil))) (pss_one (ps_set (i := 5) sc_law_pool.nd rfl (by first | exact Or.inl rfl | exact Or.inr rfl) (pe_op op_divA (pv 5) pe_int)))) pss_nil))))))))) (pss_cons (ps_for (passes_of rfl) rfl (pi_range1 rfl T.f_range (pa_cons pe_int pa_nil)) (pg_name (i := 4) sc_law_pool.nd rfl (by first | exact Or.inl rfl | exact Or.inr rfl)) (pss_cons (ps_set (i := 6) sc_law_pool.nd rfl (by first | exact Or.inl rfl | exact Or.inr rfl) (pe_op op_modA (pe_callTy c_int rfl T.f_int (by decide +kernel) (pa_cons (pe_op op_mulA (pe_op op_addA (pv 2) pe_int) (pe_op op_addA (pe_op op_divA (pe_op op_addA (pe_op op_mulA (pe_op op_mulA pe_int (pv 4)) (pv 4)) (pe_op op_mulA pe_int (pv 4))) pe_int) pe_int)) pa_nil)) pe_int)) (pss_one (ps_expr (pe_bm PySem.F.plainAttrs_list PySem.F.slot_list_append PySem.F.type_list_append mt_append (pv 1) (pa_cons (pe_op op_modA (pe_callTy c_int rfl T.f_int (by decide +kernel) (pa_cons (pe_op op_addA (pe_op op_mulA (pv 6) (pv 6)) (pv 4)) pa_nil)) pe_int) pa_nil)))))) (pss_one (ps_ret (pv 1)))))))
/-! _law_pick -/
abbrev N_law_pick : List Str := ["_law_draws", "_law_many"]
def t_law_pick (K : Frg) (E : XK) : TS :=
  (tSeq (tIfS (tTest (tOp (rEqA K) (tVar 0) (tLst tNil))) (tRet (tC (.int 0))) tNext) (tRet (tOp rModA (tCB (rIntA) (tCons (tBM K "list" rPopAt (tVar 0) (tCons (tC (.int 0)) tNil)) tNil)) (tVar 1))))
def sp_law_pick (K : Frg) : Sp := fun vs H Q E => vs.length = 2 ∧ t_law_pick K E { nx := fun _ H' => Q .non H', rt := Q } (start N_law_pick vs) H
theorem sc_law_pick : FnScope N_law_pick ["_law_draws", "_law_many"] (defScope s_law_pick) := ⟨rfl, rfl, rfl, by decide +kernel, rfl, by decide +kernel, by decide +kernel⟩
theorem ok_law_pick (T : Txt PROG K mg) : ∃ fd, FnOk PROG w K mg base (L2.CX PROG w) 1 (Rz.pG "_law_pick" K) fd ["_law_draws", "_law_many"] (sp_law_pick K) ∧ FunD K "_law_pick" "_law_pick" (defArgs s_law_pick) (defBody s_law_pick) (defScope s_law_pick) [] [] (Rz.pG "_law_pick" K) fd := by
  obtain ⟨fd, F⟩ := T.F_law_pick
  refine ⟨fd, F.ok sc_law_pick (fun vs H Q E h => h.1) (fun cdv A outer s H vs Q E hr h => ⟨t_law_pick K E, ?_, h.2⟩), F⟩
  exact (pss_cons (ps_if (pt_cmpR (op_eqA hr) (pv 0) (pe_lst pa_nil) (nomark _)) (pss_one (ps_ret pe_int)) pss_nil) (pss_one (ps_ret (pe_op op_modA (pe_callTy c_int rfl T.f_int (by decide +kernel) (pa_cons (pe_bm PySem.F.plainAttrs_list PySem.F.slot_list_pop PySem.F.type_list_pop mt_popAt (pv 0) (pa_cons pe_int pa_nil)) pa_nil)) (pv 1)))))
/-! _law_row_of -/
abbrev N_law_row_of : List Str := ["_law_draws", "_law_greatest", "_law_letters", "_law_few", "_law_size", "_law_pairs", "_law_k"]
def t_law_row_of (K : Frg) (E : XK) : TS :=
  (tSeq (tAsg (tC (.str "abcdefghijklmnopqrstuvwxyz")) (gName 2)) (tSeq (tAsg (tOp rAddA (tC (.int 1)) (tCallSD (sp_law_pick K) [] (WE (W0 E)) (tCons (tVar 0) (tCons (tC (.int 26)) tNil)))) (gName 3)) (tSeq (tAsg (tCallSD (sp_law_pick K) [] (WE (W0 E)) (tCons (tVar 0) (tCons (tOp rAddA (tVar 1) (tC (.int 1))) tNil))) (gName 4)) (tSeq (tAsg (tLc (iRng1 (tCons (tVar 4) tNil)) (gName 6) tYes (tTup (tCons (tOp (rIx K) (tVar 2) (tCallSD (sp_law_pick K) [] (WE WN) (tCons (tVar 0) (tCons (tVar 3) tNil)))) (tCons (tCallSD (sp_law_pick K) [] (WE WN) (tCons (tVar 0) (tCons (tC (.int 10)) tNil))) tNil))) [6]) (gName 5)) (tSeq (tIfS (tTest (tOp (rEqA K) (tCallSD (sp_law_pick K) [] (WE (W0 E)) (tCons (tVar 0) (tCons (tC (.int 5)) tNil))) (tC (.int 4)))) (tAsg (tOp rMulA (tVar 5) (tOp rAddA (tC (.int 1)) (tCallSD (sp_law_pick K) [] (WE (W0 E)) (tCons (tVar 0) (tCons (tC (.int 12)) tNil))))) (gName 5)) tNext) (tRet (tVar 5)))))))
def sp_law_row_of (K : Frg) : Sp := fun vs H Q E => vs.length = 2 ∧ t_law_row_of K E { nx := fun _ H' => Q .non H', rt := Q } (start N_law_row_of vs) H
theorem sc_law_row_of : FnScope N_law_row_of ["_law_draws", "_law_greatest"] (defScope s_law_row_of) := ⟨rfl, rfl, rfl, by decide +kernel, rfl, by decide +kernel, by decide +kernel⟩
theorem ok_law_row_of (T : Txt PROG K mg) : ∃ fd, FnOk PROG w K mg base (L2.CX PROG w) 2 (Rz.pG "_law_row_of" K) fd ["_law_draws", "_law_greatest"] (sp_law_row_of K) ∧ FunD K "_law_row_of" "_law_row_of" (defArgs s_law_row_of) (defBody s_law_row_of) (defScope s_law_row_of) [] [] (Rz.pG "_law_row_of" K) fd := by
  obtain ⟨fd_law_pick, G_law_pick, D_law_pick⟩ := ok_law_pick (w := w) (base := base) T
  have b_law_pick_2 : Binds K fd_law_pick _ [] := D_law_pick.bindsN (ps := ["_law_draws", "_law_many"]) (fun _ _ _ _ _ _ us hl => match us, hl with | [_, _], _ => rfl)
  obtain ⟨fd, F⟩ := T.F_law_row_of
  refine ⟨fd, F.ok sc_law_row_of (fun vs H Q E h => h.1) (fun cdv A outer s H vs Q E hr h => ⟨t_law_row_of K E, ?_, h.2⟩), F⟩
  exact (pss_cons (ps_set (i := 2) sc_law_row_of.nd rfl (by first | exact Or.inl rfl | exact Or.inr rfl) pe_str) (pss_cons (ps_set (i := 3) sc_law_row_of.nd rfl (by first | exact Or.inl rfl | exact Or.inr rfl) (pe_op op_addA pe_int (pe_callSD G_law_pick (hr.mono (by decide)) rfl T.g__law_pick D_law_pick.kp b_law_pick_2 .nil (fun σ => passAt (takes_of rfl rfl rfl rfl) σ) (pa_cons (pv 0) (pa_cons pe_int pa_nil))))) (pss_cons (ps_set (i := 4) sc_law_row_of.nd rfl (by first | exact Or.inl rfl | exact Or.inr rfl) (pe_callSD G_law_pick (hr.mono (by decide)) rfl T.g__law_pick D_law_pick.kp b_law_pick_2 .nil (fun σ => passAt (takes_of rfl rfl rfl rfl) σ) (pa_cons (pv 0) (pa_cons (pe_op op_addA (pv 1) pe_int) pa_nil)))) (pss_cons (by first | (refine ps_setLc (i := 5) (own := [("_law_k", 6)]) rfl sc_law_row_of.nd rfl rfl ?e ?f ?g ?h ?i ?j; (case e => exact sw_true rfl rfl rfl (by decide +kernel)); (case f => exact (pi_range1 rfl T.f_range (pa_cons (pv 4) pa_nil))); (case g => exact (blkOk_by (own := [("_law_k", 6)]) (N := N_law_row_of) (sc := defScope s_law_row_of) (by decide +kernel))); (case h => exact (fun _ _ _ _ _ => (pg_name (i := 6) sc_law_row_of.nd rfl (by first | exact Or.inl rfl | exact Or.inr rfl)))); (case i => exact (fun _ _ _ _ _ => pts_nil)); (case j => exact (fun _ _ _ _ _ => (pe_tup (pa_cons (pe_ix ix_seq (pv 2) (pe_callSD G_law_pick (hr.mono (by decide)) rfl T.g__law_pick D_law_pick.kp b_law_pick_2 .nil (fun σ => passAt takes0 σ) (pa_cons (pv 0) (pa_cons (pv 3) pa_nil))) (fun _ _ => rfl)) (pa_cons (pe_callSD G_law_pick (hr.mono (by decide)) rfl T.g__law_pick D_law_pick.kp b_law_pick_2 .nil (fun σ => passAt takes0 σ) (pa_cons (pv 0) (pa_cons pe_int pa_nil))) pa_nil)))))) | exact (ps_set (i := 5) sc_law_row_of.nd rfl (by first | exact Or.inl rfl | exact Or.inr rfl) (pe_lc (own := [("_law_k", 6)]) rfl sc_law_row_of.nd (pi_range1 rfl T.f_range (pa_cons (pv 4) pa_nil)) (blkOk_by (own := [("_law_k", 6)]) (N := N_law_row_of) (sc := defScope s_law_row_of) (by decide +kernel)) (fun _ _ _ _ _ => (pg_name (i := 6) sc_law_row_of.nd rfl (by first | exact Or.inl rfl | exact Or.inr rfl))) (fun _ _ _ _ _ => pts_nil) (fun _ _ _ _ _ => (pe_tup (pa_cons (pe_ix ix_seq (pv 2) (pe_callSD G_law_pick (hr.mono (by decide)) rfl T.g__law_pick D_law_pick.kp b_law_pick_2 .nil (fun σ => passAt takes0 σ) (pa_cons (pv 0) (pa_cons (pv 3) pa_nil))) (fun _ _ => rfl)) (pa_cons (pe_callSD G_law_pick (hr.mono (by decide)) rfl T.g__law_pick D_law_pick.kp b_law_pick_2 .nil (fun σ => passAt takes0 σ) (pa_cons (pv 0) (pa_cons pe_int pa_nil))) pa_nil))))))) (pss_cons (ps_if (pt_cmpR (op_eqA hr) (pe_callSD G_law_pick (hr.mono (by decide)) rfl T.g__law_pick D_law_pick.kp b_law_pick_2 .nil (fun σ => passAt (takes_of rfl rfl rfl rfl) σ) (pa_cons (pv 0) (pa_cons pe_int pa_nil))) pe_int (nomark _)) (pss_one (ps_set (i := 5) sc_law_row_of.nd rfl (by first | exact Or.inl rfl | exact Or.inr rfl) (pe_op op_mulA (pv 5) (pe_op op_addA pe_int (pe_callSD G_law_pick (hr.mono (by decide)) rfl T.g__law_pick D_law_pick.kp b_law_pick_2 .nil (fun σ => passAt (takes_of rfl rfl rfl rfl) σ) (pa_cons (pv 0) (pa_cons pe_int pa_nil))))))) pss_nil) (pss_one (ps_ret (pv 5))))))))
/-! _law_near -/
abbrev N_law_near : List Str := ["_law_draws", "_law_pairs", "_law_letters", "_law_kind", "_law_at", "_law_end", "_law_other"]
def t_law_near (K : Frg) (E : XK) : TS :=
  (tSeq (tAsg (tC (.str "abcdefghijklmnopqrstuvwxyz")) (gName 2)) (tSeq (tAsg (tCallSD (sp_law_pick K) [] (WE (W0 E)) (tCons (tVar 0) (tCons (tC (.int 6)) tNil))) (gName 3)) (tSeq (tAsg (tCallSD (sp_law_pick K) [] (WE (W0 E)) (tCons (tVar 0) (tCons (tOp rAddA (tCB (rLenA K) (tCons (tVar 1) tNil)) (tC (.int 1))) tNil))) (gName 4)) (tSeq (tAsg (tOp rAddA (tVar 4) (tCallSD (sp_law_pick K) [] (WE (W0 E)) (tCons (tVar 0) (tCons (tOp rAddA (tOp rSubA (tCB (rLenA K) (tCons (tVar 1) tNil)) (tVar 4)) (tC (.int 1))) tNil)))) (gName 5)) (tSeq (tIfS (tTest (tOp (rEqA K) (tVar 3) (tC (.int 0)))) (tRet (tCallSD (sp_law_row_of K) [] (WE (W0 E)) (tCons (tVar 0) (tCons (tC (.int 7)) tNil)))) tNext) (tSeq (tIfS (tTest (tOp (rEqA K) (tVar 3) (tC (.int 1)))) (tRet (tCB (rListA K) (tCons (tVar 1) tNil))) tNext) (tSeq (tIfS (tTest (tOp (rEqA K) (tVar 3) (tC (.int 2)))) (tRet (tSl (rSlA K) (tVar 1) tNoPart (tPart (tVar 4)))) tNext) (tSeq (tIfS (tOr (tTest (tOp (rEqA K) (tVar 3) (tC (.int 3)))) (tTest (tOp (rEqA K) (tVar 4) (tCB (rLenA K) (tCons (tVar 1) tNil))))) (tRet (tSl (rSlA K) (tVar 1) (tPart (tVar 4)) (tPart (tVar 5)))) tNext) (tSeq (tAsg (tTup (tCons (tOp (rIx K) (tOp (rIx K) (tVar 1) (tVar 4)) (tC (.int 0))) (tCons (tCallSD (sp_law_pick K) [] (WE (W0 E)) (tCons (tVar 0) (tCons (tC (.int 10)) tNil))) tNil))) (gName 6)) (tSeq (tIfS (tTest (tOp (rEqA K) (tVar 3) (tC (.int 4)))) (tAsg (tTup (tCons (tOp (rIx K) (tVar 2) (tCallSD (sp_law_pick K) [] (WE (W0 E)) (tCons (tVar 0) (tCons (tC (.int 26)) tNil)))) (tCons (tOp (rIx K) (tOp (rIx K) (tVar 1) (tVar 4)) (tC (.int 1))) tNil))) (gName 6)) tNext) (tRet (tOp rAddA (tOp rAddA (tSl (rSlA K) (tVar 1) tNoPart (tPart (tVar 4))) (tLst (tCons (tVar 6) tNil))) (tSl (rSlA K) (tVar 1) (tPart (tOp rAddA (tVar 4) (tC (.int 1)))) tNoPart)))))))))))))
def sp_law_near (K : Frg) : Sp := fun vs H Q E => vs.length = 2 ∧ t_law_near K E { nx := fun _ H' => Q .non H', rt := Q } (start N_law_near vs) H
theorem sc_law_near : FnScope N_law_near ["_law_draws", "_law_pairs"] (defScope s_law_near) := ⟨rfl, rfl, rfl, by decide +kernel, rfl, by decide +kernel, by decide +kernel⟩
theorem ok_law_near (T : Txt PROG K mg) : ∃ fd, FnOk PROG w K mg base (L2.CX PROG w) 3 (Rz.pG "_law_near" K) fd ["_law_draws", "_law_pairs"] (sp_law_near K) ∧ FunD K "_law_near" "_law_near" (defArgs s_law_near) (defBody s_law_near) (defScope s_law_near) [] [] (Rz.pG "_law_near" K) fd := by
  obtain ⟨fd_law_pick, G_law_pick, D_law_pick⟩ := ok_law_pick (w := w) (base := base) T
  obtain ⟨fd_law_row_of, G_law_row_of, D_law_row_of⟩ := ok_law_row_of (w := w) (base := base) T
  have b_law_pick_2 : Binds K fd_law_pick _ [] := D_law_pick.bindsN (ps := ["_law_draws", "_law_many"]) (fun _ _ _ _ _ _ us hl => match us, hl with | [_, _], _ => rfl)
  have b_law_row_of_2 : Binds K fd_law_row_of _ [] := D_law_row_of.bindsN (ps := ["_law_draws", "_law_greatest"]) (fun _ _ _ _ _ _ us hl => match us, hl with | [_, _], _ => rfl)
  obtain ⟨fd, F⟩ := T.F_law_near
  refine ⟨fd, F.ok sc_law_near (fun vs H Q E h => h.1) (fun cdv A outer s H vs Q E hr h => ⟨t_law_near K E, ?_, h.2⟩), F⟩
  exact (pss_cons (ps_set (i := 2) sc_law_near.nd rfl (by first | exact Or.inl rfl | exact Or.inr rfl) pe_str) (pss_cons (ps_set (i := 3) sc_law_near.nd rfl (by first | exact Or.inl rfl | exact Or.inr rfl) (pe_callSD G_law_pick (hr.mono (by decide)) rfl T.g__law_pick D_law_pick.kp b_law_pick_2 .nil (fun σ => passAt (takes_of rfl rfl rfl rfl) σ) (pa_cons (pv 0) (pa_cons pe_int pa_nil)))) (pss_cons (ps_set (i := 4) sc_law_near.nd rfl (by first | exact Or.inl rfl | exact Or.inr rfl) (pe_callSD G_law_pick (hr.mono (by decide)) rfl T.g__law_pick D_law_pick.kp b_law_pick_2 .nil (fun σ => passAt (takes_of rfl rfl rfl rfl) σ) (pa_cons (pv 0) (pa_cons (pe_op op_addA (pe_callB c_len rfl T.f_len (by decide +kernel) (pa_cons (pv 1) pa_nil)) pe_int) pa_nil)))) (pss_cons (ps_set (i := 5) sc_law_near.nd rfl (by first | exact Or.inl rfl | exact Or.inr rfl) (pe_op op_addA (pv 4) (pe_callSD G_law_pick (hr.mono (by decide)) rfl T.g__law_pick D_law_pick.kp b_law_pick_2 .nil (fun σ => passAt (takes_of rfl rfl rfl rfl) σ) (pa_cons (pv 0) (pa_cons (pe_op op_addA (pe_op op_subA (pe_callB c_len rfl T.f_len (by decide +kernel) (pa_cons (pv 1) pa_nil)) (pv 4)) pe_int) pa_nil))))) (pss_cons (ps_if (pt_cmpR (op_eqA hr) (pv 3) pe_int (nomark _)) (pss_one (ps_ret (pe_callSD G_law_row_of (hr.mono (by decide)) rfl T.g__law_row_of D_law_row_of.kp b_law_row_of_2 .nil (fun σ => passAt (takes_of rfl rfl rfl rfl) σ) (pa_cons (pv 0) (pa_cons pe_int pa_nil))))) pss_nil) (pss_cons (ps_if (pt_cmpR (op_eqA hr) (pv 3) pe_int (nomark _)) (pss_one (ps_ret (pe_callTy c_list rfl T.f_list (by decide +kernel) (pa_cons (pv 1) pa_nil)))) pss_nil) (pss_cons (ps_if (pt_cmpR (op_eqA hr) (pv 3) pe_int (nomark _)) (pss_one (ps_ret (pe_slice sl_A (pv 1) po_none (po_some (pv 4))))) pss_nil) (pss_cons (ps_if (PW.pt (pw_or (pt_cmpR (op_eqA hr) (pv 3) pe_int (nomark _)) (pw_or1 (pt_cmpR (op_eqA hr) (pv 4) (pe_callB c_len rfl T.f_len (by decide +kernel) (pa_cons (pv 1) pa_nil)) (nomark _))))) (pss_one (ps_ret (pe_slice sl_A (pv 1) (po_some (pv 4)) (po_some (pv 5))))) pss_nil) (pss_cons (ps_set (i := 6) sc_law_near.nd rfl (by first | exact Or.inl rfl | exact Or.inr rfl) (pe_tup (pa_cons (pe_ix ix_seq (pe_ix ix_seq (pv 1) (pv 4) (fun _ _ => rfl)) pe_int (fun _ _ => rfl)) (pa_cons (pe_callSD G_law_pick (hr.mono (by decide)) rfl T.g__law_pick D_law_pick.kp b_law_pick_2 .nil (fun σ => passAt (takes_of rfl rfl rfl rfl) σ) (pa_cons (pv 0) (pa_cons pe_int pa_nil))) pa_nil)))) (pss_cons (ps_if (pt_cmpR (op_eqA hr) (pv 3) pe_int (nomark _)) (pss_one (ps_set (i := 6) sc_law_near.nd rfl (by first | exact Or.inl rfl | exact Or.inr rfl) (pe_tup (pa_cons (pe_ix ix_seq (pv 2) (pe_callSD G_law_pick (hr.mono (by decide)) rfl T.g__law_pick D_law_pick.kp b_law_pick_2 .nil (fun σ => passAt (takes_of rfl rfl rfl rfl) σ) (pa_cons (pv 0) (pa_cons pe_int pa_nil))) (fun _ _ => rfl)) (pa_cons (pe_ix ix_seq (pe_ix ix_seq (pv 1) (pv 4) (fun _ _ => rfl)) pe_int (fun _ _ => rfl)) pa_nil))))) pss_nil) (pss_one (ps_ret (pe_op op_addA (pe_op op_addA (pe_slice sl_A (pv 1) po_none (po_some (pv 4))) (pe_lst (pa_cons (pv 6) pa_nil))) (pe_slice sl_A (pv 1) (po_some (pe_op op_addA (pv 4) pe_int)) po_none))))))))))))))
/-! _law_odd_sign -/
abbrev N_law_odd_sign : List Str := ["_law_draws", "_law_odd"]
def t_law_odd_sign (K : Frg) (E : XK) : TS :=
  (tSeq (tAsg (tC (.str " !\"#$&'()*+,-./0123456789:;<=>?@ABCDEFGHIJKLMNOPQRSTUVWXYZ[\\]^_`{|}~\n\t")) (gName 1)) (tRet (tOp (rIx K) (tVar 1) (tCallSD (sp_law_pick K) [] (WE (W0 E)) (tCons (tVar 0) (tCons (tCB (rLenA K) (tCons (tVar 1) tNil)) tNil))))))
def sp_law_odd_sign (K : Frg) : Sp := fun vs H Q E => vs.length = 1 ∧ t_law_odd_sign K E { nx := fun _ H' => Q .non H', rt := Q } (start N_law_odd_sign vs) H
theorem sc_law_odd_sign : FnScope N_law_odd_sign ["_law_draws"] (defScope s_law_odd_sign) := ⟨rfl, rfl, rfl, by decide +kernel, rfl, by decide +kernel, by decide +kernel⟩
theorem ok_law_odd_sign (T : Txt PROG K mg) : ∃ fd, FnOk PROG w K mg base (L2.CX PROG w) 2 (Rz.pG "_law_odd_sign" K) fd ["_law_draws"] (sp_law_odd_sign K) ∧ FunD K "_law_odd_sign" "_law_odd_sign" (defArgs s_law_odd_sign) (defBody s_law_odd_sign) (defScope s_law_odd_sign) [] [] (Rz.pG "_law_odd_sign" K) fd := by
  obtain ⟨fd_law_pick, G_law_pick, D_law_pick⟩ := ok_law_pick (w := w) (base := base) T
  have b_law_pick_2 : Binds K fd_law_pick _ [] := D_law_pick.bindsN (ps := ["_law_draws", "_law_many"]) (fun _ _ _ _ _ _ us hl => match us, hl with | [_, _], _ => rfl)
  obtain ⟨fd, F⟩ := T.F_law_odd_sign
  refine ⟨fd, F.ok sc_law_odd_sign (fun vs H Q E h => h.1) (fun cdv A outer s H vs Q E hr h => ⟨t_law_odd_sign K E, ?_, h.2⟩), F⟩
  exact (pss_cons (ps_set (i := 1) sc_law_odd_sign.nd rfl (by first | exact Or.inl rfl | exact Or.inr rfl) pe_str) (pss_one (ps_ret (pe_ix ix_seq (pv 1) (pe_callSD G_law_pick (hr.mono (by decide)) rfl T.g__law_pick D_law_pick.kp b_law_pick_2 .nil (fun σ => passAt (takes_of rfl rfl rfl rfl) σ) (pa_cons (pv 0) (pa_cons (pe_callB c_len rfl T.f_len (by decide +kernel) (pa_cons (pv 1) pa_nil)) pa_nil))) (fun _ _ => rfl)))))
/-! _law_string_of -/
abbrev N_law_string_of : List Str := ["_law_draws", "_law_pairs", "_law_letters", "_law_signs", "_law_at", "_law_end", "_law_part", "_law_kind", "_law_place", "_law_pair"]
def t_law_string_of (K : Frg) (E : XK) : TS :=
  (tSeq (tAsg (tC (.str "abcdefghijklmnopqrstuvwxyz")) (gName 2)) (tSeq (tAsg (tM1 (rJoinA K) (tC (.str "")) (tLc (iList K (tVar 1)) (gName 9) tYes (tOp (rIx K) (tVar 9) (tC (.int 0))) [9])) (gName 3)) (tSeq (tAsg (tCallSD (sp_law_pick K) [] (WE (W0 E)) (tCons (tVar 0) (tCons (tOp rAddA (tCB (rLenA K) (tCons (tVar 3) tNil)) (tC (.int 1))) tNil))) (gName 4)) (tSeq (tAsg (tOp rAddA (tVar 4) (tCallSD (sp_law_pick K) [] (WE (W0 E)) (tCons (tVar 0) (tCons (tOp rAddA (tOp rSubA (tCB (rLenA K) (tCons (tVar 3) tNil)) (tVar 4)) (tC (.int 1))) tNil)))) (gName 5)) (tSeq (tAsg (tSl (rSlA K) (tVar 3) (tPart (tVar 4)) (tPart (tVar 5))) (gName 6)) (tSeq (tAsg (tCallSD (sp_law_pick K) [] (WE (W0 E)) (tCons (tVar 0) (tCons (tC (.int 5)) tNil))) (gName 7)) (tSeq (tIfS (tTest (tOp (rEqA K) (tVar 7) (tC (.int 0)))) (tRet (tCallSD (sp_law_odd_sign K) [] (WE (W0 E)) (tCons (tVar 0) tNil))) tNext) (tSeq (tIfS (tTest (tOp (rEqA K) (tVar 7) (tC (.int 1)))) (tRet (tOp rAddA (tOp (rIx K) (tVar 2) (tCallSD (sp_law_pick K) [] (WE (W0 E)) (tCons (tVar 0) (tCons (tC (.int 26)) tNil)))) (tOp (rIx K) (tVar 2) (tCallSD (sp_law_pick K) [] (WE (W0 E)) (tCons (tVar 0) (tCons (tC (.int 26)) tNil)))))) tNext) (tSeq (tIfS (tAnd (tTest (tOp (rEqA K) (tVar 7) (tC (.int 2)))) (tTest (tOp (rNeA K) (tVar 6) (tC (.str ""))))) (tSeq (tAsg (tCallSD (sp_law_pick K) [] (WE (W0 E)) (tCons (tVar 0) (tCons (tCB (rLenA K) (tCons (tVar 6) tNil)) tNil))) (gName 8)) (tRet (tOp rAddA (tOp rAddA (tSl (rSlA K) (tVar 6) tNoPart (tPart (tVar 8))) (tOp (rIx K) (tVar 2) (tCallSD (sp_law_pick K) [] (WE (W0 E)) (tCons (tVar 0) (tCons (tC (.int 26)) tNil))))) (tSl (rSlA K) (tVar 6) (tPart (tOp rAddA (tVar 8) (tC (.int 1)))) tNoPart)))) tNext) (tRet (tVar 6)))))))))))
def sp_law_string_of (K : Frg) : Sp := fun vs H Q E => vs.length = 2 ∧ t_law_string_of K E { nx := fun _ H' => Q .non H', rt := Q } (start N_law_string_of vs) H
theorem sc_law_string_of : FnScope N_law_string_of ["_law_draws", "_law_pairs"] (defScope s_law_string_of) := ⟨rfl, rfl, rfl, by decide +kernel, rfl, by decide +kernel, by decide +kernel⟩
theorem ok_law_string_of (T : Txt PROG K mg) : ∃ fd, FnOk PROG w K mg base (L2.CX PROG w) 3 (Rz.pG "_law_string_of" K) fd ["_law_draws", "_law_pairs"] (sp_law_string_of K) ∧ FunD K "_law_string_of" "_law_string_of" (defArgs s_law_string_of) (defBody s_law_string_of) (defScope s_law_string_of) [] [] (Rz.pG "_law_string_of" K) fd := by
  obtain ⟨fd_law_pick, G_law_pick, D_law_pick⟩ := ok_law_pick (w := w) (base := base) T
  obtain ⟨fd_law_odd_sign, G_law_odd_sign, D_law_odd_sign⟩ := ok_law_odd_sign (w := w) (base := base) T
  have b_law_pick_2 : Binds K fd_law_pick _ [] := D_law_pick.bindsN (ps := ["_law_draws", "_law_many"]) (fun _ _ _ _ _ _ us hl => match us, hl with | [_, _], _ => rfl)
  have b_law_odd_sign_1 : Binds K fd_law_odd_sign _ [] := D_law_odd_sign.bindsN (ps := ["_law_draws"]) (fun _ _ _ _ _ _ us hl => match us, hl with | [_], _ => rfl)
  obtain ⟨fd, F⟩ := T.F_law_string_of
  refine ⟨fd, F.ok sc_law_string_of (fun vs H Q E h => h.1) (fun cdv A outer s H vs Q E hr h => ⟨t_law_string_of K E, ?_, h.2⟩), F⟩
  exact (pss_cons (ps_set (i := 2) sc_law_string_of.nd rfl (by first | exact Or.inl rfl | exact Or.inr rfl) pe_str) (pss_cons (ps_set (i := 3) sc_law_string_of.nd rfl (by first | exact Or.inl rfl | exact Or.inr rfl) (pe_joinA pe_str (pe_lc (own := [("_law_pair", 9)]) rfl sc_law_string_of.nd (pi_list (pv 1)) (blkOk_by (own := [("_law_pair", 9)]) (N := N_law_string_of) (sc := defScope s_law_string_of) (by decide +kernel)) (fun _ _ _ _ _ => (pg_name (i := 9) sc_law_string_of.nd rfl (by first | exact Or.inl rfl | exact Or.inr rfl))) (fun _ _ _ _ _ => pts_nil) (fun _ _ _ _ _ => (pe_ix ix_seq (pv 9) pe_int (fun _ _ => rfl)))))) (pss_cons (ps_set (i := 4) sc_law_string_of.nd rfl (by first | exact Or.inl rfl | exact Or.inr rfl) (pe_callSD G_law_pick (hr.mono (by decide)) rfl T.g__law_pick D_law_pick.kp b_law_pick_2 .nil (fun σ => passAt (takes_of rfl rfl rfl rfl) σ) (pa_cons (pv 0) (pa_cons (pe_op op_addA (pe_callB c_len rfl T.f_len (by decide +kernel) (pa_cons (pv 3) pa_nil)) pe_int) pa_nil)))) (pss_cons (ps_set (i := 5) sc_law_string_of.nd rfl (by first | exact Or.inl rfl | exact Or.inr rfl) (pe_op op_addA (pv 4) (pe_callSD G_law_pick (hr.mono (by decide)) rfl T.g__law_pick D_law_pick.kp b_law_pick_2 .nil (fun σ => passAt (takes_of rfl rfl rfl rfl) σ) (pa_cons (pv 0) (pa_cons (pe_op op_addA (pe_op op_subA (pe_callB c_len rfl T.f_len (by decide +kernel) (pa_cons (pv 3) pa_nil)) (pv 4)) pe_int) pa_nil))))) (pss_cons (ps_set (i := 6) sc_law_string_of.nd rfl (by first | exact Or.inl rfl | exact Or.inr rfl) (pe_slice sl_A (pv 3) (po_some (pv 4)) (po_some (pv 5)))) (pss_cons (ps_set (i := 7) sc_law_string_of.nd rfl (by first | exact Or.inl rfl | exact Or.inr rfl) (pe_callSD G_law_pick (hr.mono (by decide)) rfl T.g__law_pick D_law_pick.kp b_law_pick_2 .nil (fun σ => passAt (takes_of rfl rfl rfl rfl) σ) (pa_cons (pv 0) (pa_cons pe_int pa_nil)))) (pss_cons (ps_if (pt_cmpR (op_eqA hr) (pv 7) pe_int (nomark _)) (pss_one (ps_ret (pe_callSD G_law_odd_sign (hr.mono (by decide)) rfl T.g__law_odd_sign D_law_odd_sign.kp b_law_odd_sign_1 .nil (fun σ => passAt (takes_of rfl rfl rfl rfl) σ) (pa_cons (pv 0) pa_nil)))) pss_nil) (pss_cons (ps_if (pt_cmpR (op_eqA hr) (pv 7) pe_int (nomark _)) (pss_one (ps_ret (pe_op op_addA (pe_ix ix_seq (pv 2) (pe_callSD G_law_pick (hr.mono (by decide)) rfl T.g__law_pick D_law_pick.kp b_law_pick_2 .nil (fun σ => passAt (takes_of rfl rfl rfl rfl) σ) (pa_cons (pv 0) (pa_cons pe_int pa_nil))) (fun _ _ => rfl)) (pe_ix ix_seq (pv 2) (pe_callSD G_law_pick (hr.mono (by decide)) rfl T.g__law_pick D_law_pick.kp b_law_pick_2 .nil (fun σ => passAt (takes_of rfl rfl rfl rfl) σ) (pa_cons (pv 0) (pa_cons pe_int pa_nil))) (fun _ _ => rfl))))) pss_nil) (pss_cons (ps_if (PW.pt (pw_and (pt_cmpR (op_eqA hr) (pv 7) pe_int (nomark _)) (pw_and1 (pt_cmpR (op_neA hr) (pv 6) pe_str (nomark _))))) (pss_cons (ps_set (i := 8) sc_law_string_of.nd rfl (by first | exact Or.inl rfl | exact Or.inr rfl) (pe_callSD G_law_pick (hr.mono (by decide)) rfl T.g__law_pick D_law_pick.kp b_law_pick_2 .nil (fun σ => passAt (takes_of rfl rfl rfl rfl) σ) (pa_cons (pv 0) (pa_cons (pe_callB c_len rfl T.f_len (by decide +kernel) (pa_cons (pv 6) pa_nil)) pa_nil)))) (pss_one (ps_ret (pe_op op_addA (pe_op op_addA (pe_slice sl_A (pv 6) po_none (po_some (pv 8))) (pe_ix ix_seq (pv 2) (pe_callSD G_law_pick (hr.mono (by decide)) rfl T.g__law_pick D_law_pick.kp b_law_pick_2 .nil (fun σ => passAt (takes_of rfl rfl rfl rfl) σ) (pa_cons (pv 0) (pa_cons pe_int pa_nil))) (fun _ _ => rfl))) (pe_slice sl_A (pv 6) (po_some (pe_op op_addA (pv 8) pe_int)) po_none))))) pss_nil) (pss_one (ps_ret (pv 6))))))))))))
/-! as_string -/
abbrev N_as_string : List Str := ["text"]
def t_as_string (K : Frg) (E : XK) : TS :=
  (tSeq (tIfS (tB (tCB (rIsiA K) (tCons (tVar 0) (tCons (tC (.ty "bytes")) tNil)))) (tRet tDeadE) tNext) (tRet (tVar 0)))
def sp_as_string (K : Frg) : Sp := fun vs H Q E => vs.length = 1 ∧ t_as_string K E { nx := fun _ H' => Q .non H', rt := Q } (start N_as_string vs) H
theorem sc_as_string : FnScope N_as_string ["text"] (defScope s_as_string) := ⟨rfl, rfl, rfl, by decide +kernel, rfl, by decide +kernel, by decide +kernel⟩
theorem ok_as_string (T : Txt PROG K mg) : ∃ fd, FnOk PROG w K mg base (L2.CX PROG w) 1 (Rz.pG "as_string" K) fd ["text"] (sp_as_string K) ∧ FunD K "as_string" "as_string" (defArgs s_as_string) (defBody s_as_string) (defScope s_as_string) [] [] (Rz.pG "as_string" K) fd := by
  obtain ⟨fd, F⟩ := T.F_as_string
  refine ⟨fd, F.ok sc_as_string (fun vs H Q E h => h.1) (fun cdv A outer s H vs Q E hr h => ⟨t_as_string K E, ?_, h.2⟩), F⟩
  exact (pss_cons (ps_if (pt_val (pe_callB c_isi rfl T.f_isinstance (by decide +kernel) (pa_cons (pv 0) (pa_cons (pe_bltn rfl T.f_bytes (by decide +kernel) rfl) pa_nil)))) (pss_one (ps_ret pe_dead)) pss_nil) (pss_one (ps_ret (pv 0))))
/-! check_text -/
abbrev N_check_text : List Str := ["text", "at", "sign"]
def t_check_text (K : Frg) (E : XK) : TS :=
  (tFor (iEnumS (tCons (tVar 0) tNil)) (gTup K 2 (gCons (gName 1) (gCons (gName 2) gNil))) (tIfS (tTest (tOp (rNotInA K) (tVar 2) (tC (.str "abcdefghijklmnopqrstuvwxyz")))) (tRaise (tMkX (He.ga K "BadSign") "at" (tCons (tVar 1) tNil)) (W0 E)) tNext))
def sp_check_text (K : Frg) : Sp := fun vs H Q E => vs.length = 1 ∧ t_check_text K E { nx := fun _ H' => Q .non H', rt := Q } (start N_check_text vs) H
theorem sc_check_text : FnScope N_check_text ["text"] (defScope s_check_text) := ⟨rfl, rfl, rfl, by decide +kernel, rfl, by decide +kernel, by decide +kernel⟩
theorem ok_check_text (T : Txt PROG K mg) : ∃ fd, FnOk PROG w K mg base (L2.CX PROG w) 1 (Rz.pG "check_text" K) fd ["text"] (sp_check_text K) ∧ FunD K "check_text" "check_text" (defArgs s_check_text) (defBody s_check_text) (defScope s_check_text) [] [] (Rz.pG "check_text" K) fd := by
  obtain ⟨fd, F⟩ := T.F_check_text
  refine ⟨fd, F.ok sc_check_text (fun vs H Q E h => h.1) (fun cdv A outer s H vs Q E hr h => ⟨t_check_text K E, ?_, h.2⟩), F⟩
  exact (pss_one (ps_for (passes_of rfl) rfl (pi_enumS rfl T.f_enumerate (pa_cons (pv 0) pa_nil)) (pg_tup rfl (pgs_cons (pg_name (i := 1) sc_check_text.nd rfl (by first | exact Or.inl rfl | exact Or.inr rfl)) (pgs_cons (pg_name (i := 2) sc_check_text.nd rfl (by first | exact Or.inl rfl | exact Or.inr rfl)) pgs_nil))) (pss_one (ps_if (pt_cmpR op_notInA (pv 2) (pe_gstr rfl T.k_SIGNS) (by rfl)) (pss_one (ps_raise rfl (takes_of rfl rfl rfl rfl) (pmk_sup1 T.x_BadSign T.f_super hr rfl T.g_BadSign (pa_cons (pv 1) pa_nil)))) pss_nil))))
/-! Row.__init__ -/
abbrev N_Row_init : List Str := ["self", "text", "heights", "signs", "height"]
def t_Row_init (K : Frg) (E : XK) : TS :=
  (tSeq (tAsg (tCallSD (sp_as_string K) [] (WE (W0 E)) (tCons (tVar 1) tNil)) (gName 3)) (tSeq (tDrop (tCallSD (sp_check_text K) [] (WE (W0 E)) (tCons (tVar 3) tNil))) (tSeq (tIfS (tTest (tOp rIsN' (tVar 2) (tC .non))) (tAsg (tOp rMulA (tLst (tCons (tC (.int 0)) tNil)) (tCB (rLenA K) (tCons (tVar 3) tNil))) (gName 2)) tNext) (tSeq (tIfS (tTest (tOp (rNeA K) (tCB (rLenA K) (tCons (tVar 2) tNil)) (tCB (rLenA K) (tCons (tVar 3) tNil)))) (tRaise (tMkX0 (He.ga K "Uneven")) (W0 E)) tNext) (tSeq (tFor (iList K (tVar 2)) (gName 4) (tIfS (tNot (tTest (tChain rLeA rLeA (tC (.int 0)) (tVar 4) (tC (.int 9))))) (tRaise (tMkX (He.ga K "BadHeight") "height" (tCons (tVar 4) tNil)) (W0 E)) tNext)) (sFld K (tVar 0) (tZipS K (tCons (tVar 3) (tCons (tVar 2) tNil))) "pairs"))))))
def sp_Row_init (K : Frg) : Sp := fun vs H Q E => vs.length = 3 ∧ t_Row_init K E { nx := fun _ H' => Q .non H', rt := Q } (start N_Row_init vs) H
theorem sc_Row_init : FnScope N_Row_init ["self", "text", "heights"] (defScope s_Row_init) := ⟨rfl, rfl, rfl, by decide +kernel, rfl, by decide +kernel, by decide +kernel⟩
theorem ok_Row_init (T : Txt PROG K mg) : ∃ fd, FnOk PROG w K mg base (L2.CX PROG w) 2 (Rz.pM "Row" "__init__" K) fd ["self", "text", "heights"] (sp_Row_init K) ∧ FunD K "__init__" "Row.__init__" (defArgs s_Row_init) (defBody s_Row_init) (defScope s_Row_init) [.str "", .non] [] (Rz.pM "Row" "__init__" K) fd := by
  obtain ⟨fd_as_string, G_as_string, D_as_string⟩ := ok_as_string (w := w) (base := base) T
  obtain ⟨fd_check_text, G_check_text, D_check_text⟩ := ok_check_text (w := w) (base := base) T
  have b_as_string_1 : Binds K fd_as_string _ [] := D_as_string.bindsN (ps := ["text"]) (fun _ _ _ _ _ _ us hl => match us, hl with | [_], _ => rfl)
  have b_check_text_1 : Binds K fd_check_text _ [] := D_check_text.bindsN (ps := ["text"]) (fun _ _ _ _ _ _ us hl => match us, hl with | [_], _ => rfl)
  obtain ⟨fd, F⟩ := T.F_Row_init
  refine ⟨fd, F.ok sc_Row_init (fun vs H Q E h => h.1) (fun cdv A outer s H vs Q E hr h => ⟨t_Row_init K E, ?_, h.2⟩), F⟩
  exact (pss_cons (ps_set (i := 3) sc_Row_init.nd rfl (by first | exact Or.inl rfl | exact Or.inr rfl) (pe_callSD G_as_string (hr.mono (by decide)) rfl T.g_as_string D_as_string.kp b_as_string_1 .nil (fun σ => passAt (takes_of rfl rfl rfl rfl) σ) (pa_cons (pv 1) pa_nil))) (pss_cons (ps_expr (pe_callSD G_check_text (hr.mono (by decide)) rfl T.g_check_text D_check_text.kp b_check_text_1 .nil (fun σ => passAt (takes_of rfl rfl rfl rfl) σ) (pa_cons (pv 3) pa_nil))) (pss_cons (ps_if (pt_cmpR op_isA (pv 2) pe_non (nomark _)) (pss_one (ps_set (i := 2) sc_Row_init.nd rfl (by first | exact Or.inl rfl | exact Or.inr rfl) (pe_op op_mulA (pe_lst (pa_cons pe_int pa_nil)) (pe_callB c_len rfl T.f_len (by decide +kernel) (pa_cons (pv 3) pa_nil))))) pss_nil) (pss_cons (ps_if (pt_cmpR (op_neA hr) (pe_callB c_len rfl T.f_len (by decide +kernel) (pa_cons (pv 2) pa_nil)) (pe_callB c_len rfl T.f_len (by decide +kernel) (pa_cons (pv 3) pa_nil)) (nomark _)) (pss_one (ps_raise rfl (takes_of rfl rfl rfl rfl) (pmk_sup0 T.x_Uneven T.f_super hr rfl T.g_Uneven))) pss_nil) (pss_cons (ps_for (passes_of rfl) rfl (pi_list (pv 2)) (pg_name (i := 4) sc_Row_init.nd rfl (by first | exact Or.inl rfl | exact Or.inr rfl)) (pss_one (ps_if (pt_not (pt_chain op_leA op_leA pe_int (pv 4) (pe_gint rfl T.k_TOP))) (pss_one (ps_raise rfl (takes_of rfl rfl rfl rfl) (pmk_sup1 T.x_BadHeight T.f_super hr rfl T.g_BadHeight (pa_cons (pv 4) pa_nil)))) pss_nil))) (pss_one (ps_fld (pv 0) (pe_zipS rfl rfl T.f_list rfl T.f_zip (pa_cons (pv 3) (pa_cons (pv 2) pa_nil))) rfl)))))))
/-! _law_as_row -/
abbrev N_law_as_row : List Str := ["_law_pairs", "_law_pair"]
def t_law_as_row (K : Frg) (E : XK) : TS :=
  (tRet (tMakeS (He.ga K "Row") (sp_Row_init K) (List.drop 2 [.str "", .non]) (WE (W0 E)) (tCons (tM1 (rJoinA K) (tC (.str "")) (tLc (iList K (tVar 0)) (gName 1) tYes (tOp (rIx K) (tVar 1) (tC (.int 0))) [1])) (tCons (tLc (iList K (tVar 0)) (gName 1) tYes (tOp (rIx K) (tVar 1) (tC (.int 1))) [1]) tNil))))
def sp_law_as_row (K : Frg) : Sp := fun vs H Q E => vs.length = 1 ∧ t_law_as_row K E { nx := fun _ H' => Q .non H', rt := Q } (start N_law_as_row vs) H
theorem sc_law_as_row : FnScope N_law_as_row ["_law_pairs"] (defScope s_law_as_row) := ⟨rfl, rfl, rfl, by decide +kernel, rfl, by decide +kernel, by decide +kernel⟩
theorem ok_law_as_row (T : Txt PROG K mg) : ∃ fd, FnOk PROG w K mg base (L2.CX PROG w) 4 (Rz.pG "_law_as_row" K) fd ["_law_pairs"] (sp_law_as_row K) ∧ FunD K "_law_as_row" "_law_as_row" (defArgs s_law_as_row) (defBody s_law_as_row) (defScope s_law_as_row) [] [] (Rz.pG "_law_as_row" K) fd := by
  obtain ⟨fd_Row_init, G_Row_init, D_Row_init⟩ := ok_Row_init (w := w) (base := base) T
  obtain ⟨ds_Row_init_3, V_Row_init_3, b_Row_init_3⟩ := D_Row_init.binds1 (ps := ["self", "text", "heights"]) 3 2 (by simp) rfl (fun _ _ _ _ _ _ _ us its h1 h2 => match us, its, h1, h2 with | [_, _, _], [_, _], _, _ => ⟨_, rfl, rfl⟩)
  obtain ⟨fd, F⟩ := T.F_law_as_row
  refine ⟨fd, F.ok sc_law_as_row (fun vs H Q E h => h.1) (fun cdv A outer s H vs Q E hr h => ⟨t_law_as_row K E, ?_, h.2⟩), F⟩
  exact (pss_one (ps_ret (pe_makeS T.mk_Row G_Row_init (hr.mono (by decide)) rfl T.g_Row b_Row_init_3 V_Row_init_3 (fun σ => passAt (takes_of rfl rfl rfl rfl) σ) (pa_cons (pe_joinA pe_str (pe_lc (own := [("_law_pair", 1)]) rfl sc_law_as_row.nd (pi_list (pv 0)) (blkOk_by (own := [("_law_pair", 1)]) (N := N_law_as_row) (sc := defScope s_law_as_row) (by decide +kernel)) (fun _ _ _ _ _ => (pg_name (i := 1) sc_law_as_row.nd rfl (by first | exact Or.inl rfl | exact Or.inr rfl))) (fun _ _ _ _ _ => pts_nil) (fun _ _ _ _ _ => (pe_ix ix_seq (pv 1) pe_int (fun _ _ => rfl))))) (pa_cons (pe_lc (own := [("_law_pair", 1)]) rfl sc_law_as_row.nd (pi_list (pv 0)) (blkOk_by (own := [("_law_pair", 1)]) (N := N_law_as_row) (sc := defScope s_law_as_row) (by decide +kernel)) (fun _ _ _ _ _ => (pg_name (i := 1) sc_law_as_row.nd rfl (by first | exact Or.inl rfl | exact Or.inr rfl))) (fun _ _ _ _ _ => pts_nil) (fun _ _ _ _ _ => (pe_ix ix_seq (pv 1) pe_int (fun _ _ => rfl)))) pa_nil)))))
/-! _law_is -/
abbrev N_law_is : List Str := ["_law_told", "_law_due"]
def t_law_is (K : Frg) (E : XK) : TS :=
  (tRet (tAndV (tCB (rIsiA K) (tCons (tVar 0) (tCons (tC (.ty "bool")) tNil))) (tOp (rEqA K) (tVar 0) (tVar 1))))
def sp_law_is (K : Frg) : Sp := fun vs H Q E => vs.length = 2 ∧ t_law_is K E { nx := fun _ H' => Q .non H', rt := Q } (start N_law_is vs) H
theorem sc_law_is : FnScope N_law_is ["_law_told", "_law_due"] (defScope s_law_is) := ⟨rfl, rfl, rfl, by decide +kernel, rfl, by decide +kernel, by decide +kernel⟩
theorem ok_law_is (T : Txt PROG K mg) : ∃ fd, FnOk PROG w K mg base (L2.CX PROG w) 1 (Rz.pG "_law_is" K) fd ["_law_told", "_law_due"] (sp_law_is K) ∧ FunD K "_law_is" "_law_is" (defArgs s_law_is) (defBody s_law_is) (defScope s_law_is) [] [] (Rz.pG "_law_is" K) fd := by
  obtain ⟨fd, F⟩ := T.F_law_is
  refine ⟨fd, F.ok sc_law_is (fun vs H Q E h => h.1) (fun cdv A outer s H vs Q E hr h => ⟨t_law_is K E, ?_, h.2⟩), F⟩
  exact (pss_one (ps_ret (pe_and (pe_callB c_isi rfl T.f_isinstance (by decide +kernel) (pa_cons (pv 0) (pa_cons (pe_bltn rfl T.f_bool (by decide +kernel) rfl) pa_nil))) (pe_one (pe_cmpR (op_eqA hr) (pv 0) (pv 1) (nomark _))))))
/-! Row.__eq__ -/
abbrev N_Row_eq : List Str := ["self", "other"]
def t_Row_eq (K : Frg) (E : XK) : TS :=
  (tSeq (tIfS (tNot (tB (tCB (rIsiA K) (tCons (tVar 1) (tCons (tC (.ref (He.ga K "Row"))) tNil))))) tDead tNext) (tRet (tOp (rEqA K) (tFld K (tVar 0) "pairs") (tFld K (tVar 1) "pairs"))))
def sp_Row_eq (K : Frg) : Sp := fun vs H Q E => vs.length = 2 ∧ t_Row_eq K E { nx := fun _ H' => Q .non H', rt := Q } (start N_Row_eq vs) H
theorem sc_Row_eq : FnScope N_Row_eq ["self", "other"] (defScope s_Row_eq) := ⟨rfl, rfl, rfl, by decide +kernel, rfl, by decide +kernel, by decide +kernel⟩
theorem ok_Row_eq (T : Txt PROG K mg) : ∃ fd, FnOk PROG w K mg base (L2.CX PROG w) 1 (Rz.pM "Row" "__eq__" K) fd ["self", "other"] (sp_Row_eq K) ∧ FunD K "__eq__" "Row.__eq__" (defArgs s_Row_eq) (defBody s_Row_eq) (defScope s_Row_eq) [] [] (Rz.pM "Row" "__eq__" K) fd := by
  obtain ⟨fd, F⟩ := T.F_Row_eq
  refine ⟨fd, F.ok sc_Row_eq (fun vs H Q E h => h.1) (fun cdv A outer s H vs Q E hr h => ⟨t_Row_eq K E, ?_, h.2⟩), F⟩
  exact (pss_cons (ps_if (pt_not (pt_val (pe_callB c_isi rfl T.f_isinstance (by decide +kernel) (pa_cons (pv 1) (pa_cons (pe_glob rfl T.g_Row rfl) pa_nil))))) (pss_one ps_dead) pss_nil) (pss_one (ps_ret (pe_cmpR (op_eqA hr) (pe_fld (pv 0) rfl) (pe_fld (pv 1) rfl) (nomark _)))))
def spn_Row_eq (K : Frg) : SpN := fun vs H Q => vs.length = 2 ∧ (tNot (tB (tCB (rIsiA K) (tCons (tVar 1) (tCons (tC (.ref (He.ga K "Row"))) tNil))))) (start N_Row_eq vs) H fun b H' => b = true ∧ Q H'
theorem okN_Row_eq (T : Txt PROG K mg) {fd : FuncData} (F : FunD K "__eq__" "Row.__eq__" (defArgs s_Row_eq) (defBody s_Row_eq) (defScope s_Row_eq) [] [] (Rz.pM "Row" "__eq__" K) fd) : FnN PROG w K mg base 1 (Rz.pM "Row" "__eq__" K) fd ["self", "other"] (spn_Row_eq K) :=
  F.okN sc_Row_eq (fun vs H Q h => h.1) rfl T.f_NotImplemented (by decide +kernel) (fun cdv A outer s H vs Q hr h => ⟨(tNot (tB (tCB (rIsiA K) (tCons (tVar 1) (tCons (tC (.ref (He.ga K "Row"))) tNil))))), (pt_not (pt_val (pe_callB c_isi rfl T.f_isinstance (by decide +kernel) (pa_cons (pv 1) (pa_cons (pe_glob rfl T.g_Row rfl) pa_nil))))), h.2⟩)
/-! Row.__lt__ -/
abbrev N_Row_lt : List Str := ["self", "other"]
def t_Row_lt (K : Frg) (E : XK) : TS :=
  (tSeq (tIfS (tNot (tB (tCB (rIsiA K) (tCons (tVar 1) (tCons (tC (.ref (He.ga K "Row"))) tNil))))) tDead tNext) (tRet (tOp (rLtD K) (tFld K (tVar 0) "pairs") (tFld K (tVar 1) "pairs"))))
def sp_Row_lt (K : Frg) : Sp := fun vs H Q E => vs.length = 2 ∧ t_Row_lt K E { nx := fun _ H' => Q .non H', rt := Q } (start N_Row_lt vs) H
theorem sc_Row_lt : FnScope N_Row_lt ["self", "other"] (defScope s_Row_lt) := ⟨rfl, rfl, rfl, by decide +kernel, rfl, by decide +kernel, by decide +kernel⟩
theorem ok_Row_lt (T : Txt PROG K mg) : ∃ fd, FnOk PROG w K mg base (L2.CX PROG w) 1 (Rz.pM "Row" "__lt__" K) fd ["self", "other"] (sp_Row_lt K) ∧ FunD K "__lt__" "Row.__lt__" (defArgs s_Row_lt) (defBody s_Row_lt) (defScope s_Row_lt) [] [] (Rz.pM "Row" "__lt__" K) fd := by
  obtain ⟨fd, F⟩ := T.F_Row_lt
  refine ⟨fd, F.ok sc_Row_lt (fun vs H Q E h => h.1) (fun cdv A outer s H vs Q E hr h => ⟨t_Row_lt K E, ?_, h.2⟩), F⟩
  exact (pss_cons (ps_if (pt_not (pt_val (pe_callB c_isi rfl T.f_isinstance (by decide +kernel) (pa_cons (pv 1) (pa_cons (pe_glob rfl T.g_Row rfl) pa_nil))))) (pss_one ps_dead) pss_nil) (pss_one (ps_ret (pe_cmpR (op_ltD hr.units) (pe_fld (pv 0) rfl) (pe_fld (pv 1) rfl) (nomark _)))))
def spn_Row_lt (K : Frg) : SpN := fun vs H Q => vs.length = 2 ∧ (tNot (tB (tCB (rIsiA K) (tCons (tVar 1) (tCons (tC (.ref (He.ga K "Row"))) tNil))))) (start N_Row_lt vs) H fun b H' => b = true ∧ Q H'
theorem okN_Row_lt (T : Txt PROG K mg) {fd : FuncData} (F : FunD K "__lt__" "Row.__lt__" (defArgs s_Row_lt) (defBody s_Row_lt) (defScope s_Row_lt) [] [] (Rz.pM "Row" "__lt__" K) fd) : FnN PROG w K mg base 1 (Rz.pM "Row" "__lt__" K) fd ["self", "other"] (spn_Row_lt K) :=
  F.okN sc_Row_lt (fun vs H Q h => h.1) rfl T.f_NotImplemented (by decide +kernel) (fun cdv A outer s H vs Q hr h => ⟨(tNot (tB (tCB (rIsiA K) (tCons (tVar 1) (tCons (tC (.ref (He.ga K "Row"))) tNil))))), (pt_not (pt_val (pe_callB c_isi rfl T.f_isinstance (by decide +kernel) (pa_cons (pv 1) (pa_cons (pe_glob rfl T.g_Row rfl) pa_nil))))), h.2⟩)
/-! Row.signs -/
abbrev N_Row_signs : List Str := ["self", "sign", "height"]
def t_Row_signs (K : Frg) (E : XK) : TS :=
  (tRet (tM1 (rJoinA K) (tC (.str "")) (tLc (iList K (tFld K (tVar 0) "pairs")) (gTup K 2 (gCons (gName 1) (gCons (gName 2) gNil))) tYes (tVar 1) [1, 2])))
def sp_Row_signs (K : Frg) : Sp := fun vs H Q E => vs.length = 1 ∧ t_Row_signs K E { nx := fun _ H' => Q .non H', rt := Q } (start N_Row_signs vs) H
theorem sc_Row_signs : FnScope N_Row_signs ["self"] (defScope s_Row_signs) := ⟨rfl, rfl, rfl, by decide +kernel, rfl, by decide +kernel, by decide +kernel⟩
theorem ok_Row_signs (T : Txt PROG K mg) : ∃ fd, FnOk PROG w K mg base (L2.CX PROG w) 1 (Rz.pP "Row" "signs" K) fd ["self"] (sp_Row_signs K) ∧ FunD K "signs" "Row.signs" (defArgs s_Row_signs) (defBody s_Row_signs) (defScope s_Row_signs) [] [] (Rz.pP "Row" "signs" K) fd := by
  obtain ⟨fd, F⟩ := T.F_Row_signs
  refine ⟨fd, F.ok sc_Row_signs (fun vs H Q E h => h.1) (fun cdv A outer s H vs Q E hr h => ⟨t_Row_signs K E, ?_, h.2⟩), F⟩
  exact (pss_one (ps_ret (pe_joinA pe_str (pe_lc (own := [("sign", 1), ("height", 2)]) rfl sc_Row_signs.nd (pi_list (pe_fld (pv 0) rfl)) (blkOk_by (own := [("sign", 1), ("height", 2)]) (N := N_Row_signs) (sc := defScope s_Row_signs) (by decide +kernel)) (fun _ _ _ _ _ => (pg_tup rfl (pgs_cons (pg_name (i := 1) sc_Row_signs.nd rfl (by first | exact Or.inl rfl | exact Or.inr rfl)) (pgs_cons (pg_name (i := 2) sc_Row_signs.nd rfl (by first | exact Or.inl rfl | exact Or.inr rfl)) pgs_nil)))) (fun _ _ _ _ _ => pts_nil) (fun _ _ _ _ _ => (pv 1))))))
/-! Row.__contains__ -/
abbrev N_Row_contains : List Str := ["self", "part", "size", "at"]
def t_Row_contains (K : Frg) (E : XK) : TS :=
  (tSeq (tIfS (tB (tCB (rIsiA K) (tCons (tVar 1) (tCons (tC (.ty "str")) tNil)))) (tRet (tOp (rInA K) (tVar 1) (tProp (He.ga K "Row") (sp_Row_signs K) [] E0 (tVar 0)))) tNext) (tSeq (tAsg (tCB (rLenA K) (tCons (tFld K (tVar 1) "pairs") tNil)) (gName 2)) (tRet (tCB (rAnyA K) (tCons (tLc (iRng1 (tCons (tOp rAddA (tOp rSubA (tCB (rLenA K) (tCons (tFld K (tVar 0) "pairs") tNil)) (tVar 2)) (tC (.int 1))) tNil)) (gName 3) tYes (tOp (rEqA K) (tSl (rSlA K) (tFld K (tVar 0) "pairs") (tPart (tVar 3)) (tPart (tOp rAddA (tVar 3) (tVar 2)))) (tFld K (tVar 1) "pairs")) [3]) tNil)))))
def sp_Row_contains (K : Frg) : Sp := fun vs H Q E => vs.length = 2 ∧ t_Row_contains K E { nx := fun _ H' => Q .non H', rt := Q } (start N_Row_contains vs) H
theorem sc_Row_contains : FnScope N_Row_contains ["self", "part"] (defScope s_Row_contains) := ⟨rfl, rfl, rfl, by decide +kernel, rfl, by decide +kernel, by decide +kernel⟩
theorem ok_Row_contains (T : Txt PROG K mg) : ∃ fd, FnOk PROG w K mg base (L2.CX PROG w) 3 (Rz.pM "Row" "__contains__" K) fd ["self", "part"] (sp_Row_contains K) ∧ FunD K "__contains__" "Row.__contains__" (defArgs s_Row_contains) (defBody s_Row_contains) (defScope s_Row_contains) [] [] (Rz.pM "Row" "__contains__" K) fd := by
  obtain ⟨fd_Row_signs, G_Row_signs, D_Row_signs⟩ := ok_Row_signs (w := w) (base := base) T
  have b_Row_signs_1 : Binds K fd_Row_signs _ [] := D_Row_signs.bindsN (ps := ["self"]) (fun _ _ _ _ _ _ us hl => match us, hl with | [_], _ => rfl)
  obtain ⟨fd, F⟩ := T.F_Row_contains
  refine ⟨fd, F.ok sc_Row_contains (fun vs H Q E h => h.1) (fun cdv A outer s H vs Q E hr h => ⟨t_Row_contains K E, ?_, h.2⟩), F⟩
  exact (pss_cons (ps_if (pt_val (pe_callB c_isi rfl T.f_isinstance (by decide +kernel) (pa_cons (pv 1) (pa_cons (pe_bltn rfl T.f_str (by decide +kernel) rfl) pa_nil)))) (pss_one (ps_ret (pe_cmpR op_inA (pv 1) (pe_prop (pv 0) T.c_Row T.p_Row_signs G_Row_signs (hr.mono (by decide)) b_Row_signs_1 .nil passL rfl) (by rfl)))) pss_nil) (pss_cons (ps_set (i := 2) sc_Row_contains.nd rfl (by first | exact Or.inl rfl | exact Or.inr rfl) (pe_callB c_len rfl T.f_len (by decide +kernel) (pa_cons (pe_fld (pv 1) rfl) pa_nil))) (pss_one (ps_ret (pe_callB (c_any rfl) rfl T.f_any (by decide +kernel) (pa_cons (pe_lc (own := [("at", 3)]) rfl sc_Row_contains.nd (pi_range1 rfl T.f_range (pa_cons (pe_op op_addA (pe_op op_subA (pe_callB c_len rfl T.f_len (by decide +kernel) (pa_cons (pe_fld (pv 0) rfl) pa_nil)) (pv 2)) pe_int) pa_nil)) (blkOk_by (own := [("at", 3)]) (N := N_Row_contains) (sc := defScope s_Row_contains) (by decide +kernel)) (fun _ _ _ _ _ => (pg_name (i := 3) sc_Row_contains.nd rfl (by first | exact Or.inl rfl | exact Or.inr rfl))) (fun _ _ _ _ _ => pts_nil) (fun _ _ _ _ _ => (pe_cmpR (op_eqA hr) (pe_slice sl_A (pe_fld (pv 0) rfl) (po_some (pv 3)) (po_some (pe_op op_addA (pv 3) (pv 2)))) (pe_fld (pv 1) rfl) (nomark _)))) pa_nil))))))
/-! Row.heights -/
abbrev N_Row_heights : List Str := ["self", "sign", "height"]
def t_Row_heights (K : Frg) (E : XK) : TS :=
  (tRet (tLc (iList K (tFld K (tVar 0) "pairs")) (gTup K 2 (gCons (gName 1) (gCons (gName 2) gNil))) tYes (tVar 2) [1, 2]))
def sp_Row_heights (K : Frg) : Sp := fun vs H Q E => vs.length = 1 ∧ t_Row_heights K E { nx := fun _ H' => Q .non H', rt := Q } (start N_Row_heights vs) H
theorem sc_Row_heights : FnScope N_Row_heights ["self"] (defScope s_Row_heights) := ⟨rfl, rfl, rfl, by decide +kernel, rfl, by decide +kernel, by decide +kernel⟩
theorem ok_Row_heights (T : Txt PROG K mg) : ∃ fd, FnOk PROG w K mg base (L2.CX PROG w) 1 (Rz.pP "Row" "heights" K) fd ["self"] (sp_Row_heights K) ∧ FunD K "heights" "Row.heights" (defArgs s_Row_heights) (defBody s_Row_heights) (defScope s_Row_heights) [] [] (Rz.pP "Row" "heights" K) fd := by
  obtain ⟨fd, F⟩ := T.F_Row_heights
  refine ⟨fd, F.ok sc_Row_heights (fun vs H Q E h => h.1) (fun cdv A outer s H vs Q E hr h => ⟨t_Row_heights K E, ?_, h.2⟩), F⟩
  exact (pss_one (ps_ret (pe_lc (own := [("sign", 1), ("height", 2)]) rfl sc_Row_heights.nd (pi_list (pe_fld (pv 0) rfl)) (blkOk_by (own := [("sign", 1), ("height", 2)]) (N := N_Row_heights) (sc := defScope s_Row_heights) (by decide +kernel)) (fun _ _ _ _ _ => (pg_tup rfl (pgs_cons (pg_name (i := 1) sc_Row_heights.nd rfl (by first | exact Or.inl rfl | exact Or.inr rfl)) (pgs_cons (pg_name (i := 2) sc_Row_heights.nd rfl (by first | exact Or.inl rfl | exact Or.inr rfl)) pgs_nil)))) (fun _ _ _ _ _ => pts_nil) (fun _ _ _ _ _ => (pv 2)))))
/-! Row.__iter__ -/
abbrev N_Row_iter : List Str := ["self"]
def t_Row_iter (K : Frg) (E : XK) : TS :=
  (tRet (tCB (rIterA K) (tCons (tFld K (tVar 0) "pairs") tNil)))
def sp_Row_iter (K : Frg) : Sp := fun vs H Q E => vs.length = 1 ∧ t_Row_iter K E { nx := fun _ H' => Q .non H', rt := Q } (start N_Row_iter vs) H
theorem sc_Row_iter : FnScope N_Row_iter ["self"] (defScope s_Row_iter) := ⟨rfl, rfl, rfl, by decide +kernel, rfl, by decide +kernel, by decide +kernel⟩
theorem ok_Row_iter (T : Txt PROG K mg) : ∃ fd, FnOk PROG w K mg base (L2.CX PROG w) 1 (Rz.pM "Row" "__iter__" K) fd ["self"] (sp_Row_iter K) ∧ FunD K "__iter__" "Row.__iter__" (defArgs s_Row_iter) (defBody s_Row_iter) (defScope s_Row_iter) [] [] (Rz.pM "Row" "__iter__" K) fd := by
  obtain ⟨fd, F⟩ := T.F_Row_iter
  refine ⟨fd, F.ok sc_Row_iter (fun vs H Q E h => h.1) (fun cdv A outer s H vs Q E hr h => ⟨t_Row_iter K E, ?_, h.2⟩), F⟩
  exact (pss_one (ps_ret (pe_callB c_iter rfl T.f_iter (by decide +kernel) (pa_cons (pe_fld (pv 0) rfl) pa_nil))))
/-! Row.__len__ -/
abbrev N_Row_len : List Str := ["self"]
def t_Row_len (K : Frg) (E : XK) : TS :=
  (tRet (tCB (rLenA K) (tCons (tFld K (tVar 0) "pairs") tNil)))
def sp_Row_len (K : Frg) : Sp := fun vs H Q E => vs.length = 1 ∧ t_Row_len K E { nx := fun _ H' => Q .non H', rt := Q } (start N_Row_len vs) H
theorem sc_Row_len : FnScope N_Row_len ["self"] (defScope s_Row_len) := ⟨rfl, rfl, rfl, by decide +kernel, rfl, by decide +kernel, by decide +kernel⟩
theorem ok_Row_len (T : Txt PROG K mg) : ∃ fd, FnOk PROG w K mg base (L2.CX PROG w) 1 (Rz.pM "Row" "__len__" K) fd ["self"] (sp_Row_len K) ∧ FunD K "__len__" "Row.__len__" (defArgs s_Row_len) (defBody s_Row_len) (defScope s_Row_len) [] [] (Rz.pM "Row" "__len__" K) fd := by
  obtain ⟨fd, F⟩ := T.F_Row_len
  refine ⟨fd, F.ok sc_Row_len (fun vs H Q E h => h.1) (fun cdv A outer s H vs Q E hr h => ⟨t_Row_len K E, ?_, h.2⟩), F⟩
  exact (pss_one (ps_ret (pe_callB c_len rfl T.f_len (by decide +kernel) (pa_cons (pe_fld (pv 0) rfl) pa_nil))))
/-! _law_is_int -/
abbrev N_law_is_int : List Str := ["_law_value"]
def t_law_is_int (K : Frg) (E : XK) : TS :=
  (tRet (tAndV (tCB (rIsiA K) (tCons (tVar 0) (tCons (tC (.ty "int")) tNil))) (tNotV (tCB (rIsiA K) (tCons (tVar 0) (tCons (tC (.ty "bool")) tNil))))))
def sp_law_is_int (K : Frg) : Sp := fun vs H Q E => vs.length = 1 ∧ t_law_is_int K E { nx := fun _ H' => Q .non H', rt := Q } (start N_law_is_int vs) H
theorem sc_law_is_int : FnScope N_law_is_int ["_law_value"] (defScope s_law_is_int) := ⟨rfl, rfl, rfl, by decide +kernel, rfl, by decide +kernel, by decide +kernel⟩
theorem ok_law_is_int (T : Txt PROG K mg) : ∃ fd, FnOk PROG w K mg base (L2.CX PROG w) 1 (Rz.pG "_law_is_int" K) fd ["_law_value"] (sp_law_is_int K) ∧ FunD K "_law_is_int" "_law_is_int" (defArgs s_law_is_int) (defBody s_law_is_int) (defScope s_law_is_int) [] [] (Rz.pG "_law_is_int" K) fd := by
  obtain ⟨fd, F⟩ := T.F_law_is_int
  refine ⟨fd, F.ok sc_law_is_int (fun vs H Q E h => h.1) (fun cdv A outer s H vs Q E hr h => ⟨t_law_is_int K E, ?_, h.2⟩), F⟩
  exact (pss_one (ps_ret (pe_and (pe_callB c_isi rfl T.f_isinstance (by decide +kernel) (pa_cons (pv 0) (pa_cons (pe_bltn rfl T.f_int (by decide +kernel) rfl) pa_nil))) (pe_one (pe_not (pe_callB c_isi rfl T.f_isinstance (by decide +kernel) (pa_cons (pv 0) (pa_cons (pe_bltn rfl T.f_bool (by decide +kernel) rfl) pa_nil))))))))
/-! Row.__abs__ -/
abbrev N_Row_abs : List Str := ["self"]
def t_Row_abs (K : Frg) (E : XK) : TS :=
  (tRet (tCB (rMaxA K) (tCons (tOp rAddA (tLst (tCons (tC (.int 0)) tNil)) (tProp (He.ga K "Row") (sp_Row_heights K) [] E0 (tVar 0))) tNil)))
def sp_Row_abs (K : Frg) : Sp := fun vs H Q E => vs.length = 1 ∧ t_Row_abs K E { nx := fun _ H' => Q .non H', rt := Q } (start N_Row_abs vs) H
theorem sc_Row_abs : FnScope N_Row_abs ["self"] (defScope s_Row_abs) := ⟨rfl, rfl, rfl, by decide +kernel, rfl, by decide +kernel, by decide +kernel⟩
theorem ok_Row_abs (T : Txt PROG K mg) : ∃ fd, FnOk PROG w K mg base (L2.CX PROG w) 3 (Rz.pM "Row" "__abs__" K) fd ["self"] (sp_Row_abs K) ∧ FunD K "__abs__" "Row.__abs__" (defArgs s_Row_abs) (defBody s_Row_abs) (defScope s_Row_abs) [] [] (Rz.pM "Row" "__abs__" K) fd := by
  obtain ⟨fd_Row_heights, G_Row_heights, D_Row_heights⟩ := ok_Row_heights (w := w) (base := base) T
  have b_Row_heights_1 : Binds K fd_Row_heights _ [] := D_Row_heights.bindsN (ps := ["self"]) (fun _ _ _ _ _ _ us hl => match us, hl with | [_], _ => rfl)
  obtain ⟨fd, F⟩ := T.F_Row_abs
  refine ⟨fd, F.ok sc_Row_abs (fun vs H Q E h => h.1) (fun cdv A outer s H vs Q E hr h => ⟨t_Row_abs K E, ?_, h.2⟩), F⟩
  exact (pss_one (ps_ret (pe_callB (c_max rfl) rfl T.f_max (by decide +kernel) (pa_cons (pe_op op_addA (pe_lst (pa_cons pe_int pa_nil)) (pe_prop (pv 0) T.c_Row T.p_Row_heights G_Row_heights (hr.mono (by decide)) b_Row_heights_1 .nil passL rfl)) pa_nil))))
/-! _law_shows -/
abbrev N_law_shows : List Str := ["_law_row", "_law_pairs", "_law_told", "_law_k", "_law_pair"]
def t_law_shows (K : Frg) (E : XK) : TS :=
  (tSeq (tIfS (tOr (tNot (tB (tCB (rIsiA K) (tCons (tVar 0) (tCons (tC (.ref (He.ga K "Row"))) tNil))))) (tOr (tNot (tB (tCB (rIsiA K) (tCons (tProp (He.ga K "Row") (sp_Row_signs K) [] E0 (tVar 0)) (tCons (tC (.ty "str")) tNil))))) (tNot (tB (tCB (rIsiA K) (tCons (tProp (He.ga K "Row") (sp_Row_heights K) [] E0 (tVar 0)) (tCons (tC (.ty "list")) tNil))))))) (tRet (tC (.bl false))) tNext) (tSeq (tAsg (tListO (He.ga K "Row") (sp_Row_iter K) (sp_Row_len K) (WE (W0 E)) (tCons (tVar 0) tNil)) (gName 2)) (tSeq (tIfS (tOr (tTest (tOp (rNeA K) (tCB (rLenA K) (tCons (tVar 2) tNil)) (tCB (rLenA K) (tCons (tVar 1) tNil)))) (tOr (tTest (tOp (rNeA K) (tLenO (He.ga K "Row") (sp_Row_len K) (WE (W0 E)) (tCons (tVar 0) tNil)) (tCB (rLenA K) (tCons (tVar 1) tNil)))) (tTest (tOp (rNeA K) (tCB (rLenA K) (tCons (tProp (He.ga K "Row") (sp_Row_heights K) [] E0 (tVar 0)) tNil)) (tCB (rLenA K) (tCons (tVar 1) tNil)))))) (tRet (tC (.bl false))) tNext) (tSeq (tFor (iRng1 (tCons (tCB (rLenA K) (tCons (tVar 1) tNil)) tNil)) (gName 3) (tSeq (tIfS (tOr (tNot (tB (tCB (rIsiA K) (tCons (tOp (rIx K) (tVar 2) (tVar 3)) (tCons (tC (.ty "tuple")) tNil))))) (tOr (tTest (tOp (rNeA K) (tOp (rIx K) (tVar 2) (tVar 3)) (tOp (rIx K) (tVar 1) (tVar 3)))) (tNot (tB (tCallSD (sp_law_is_int K) [] (WE (W0 E)) (tCons (tOp (rIx K) (tOp (rIx K) (tVar 2) (tVar 3)) (tC (.int 1))) tNil)))))) (tRet (tC (.bl false))) tNext) (tIfS (tOr (tTest (tOp (rNeA K) (tOp (rIx K) (tProp (He.ga K "Row") (sp_Row_heights K) [] E0 (tVar 0)) (tVar 3)) (tOp (rIx K) (tOp (rIx K) (tVar 1) (tVar 3)) (tC (.int 1))))) (tNot (tB (tCallSD (sp_law_is_int K) [] (WE (W0 E)) (tCons (tOp (rIx K) (tProp (He.ga K "Row") (sp_Row_heights K) [] E0 (tVar 0)) (tVar 3)) tNil))))) (tRet (tC (.bl false))) tNext))) (tSeq (tIfS (tOr (tTest (tOp (rNeA K) (tProp (He.ga K "Row") (sp_Row_signs K) [] E0 (tVar 0)) (tM1 (rJoinA K) (tC (.str "")) (tLc (iList K (tVar 1)) (gName 4) tYes (tOp (rIx K) (tVar 4) (tC (.int 0))) [4])))) (tNot (tB (tCallSD (sp_law_is_int K) [] (WE (W0 E)) (tCons (tAbsO (He.ga K "Row") (sp_Row_abs K) (WE (W0 E)) (tCons (tVar 0) tNil)) tNil))))) (tRet (tC (.bl false))) tNext) (tRet (tOp (rEqA K) (tAbsO (He.ga K "Row") (sp_Row_abs K) (WE (W0 E)) (tCons (tVar 0) tNil)) (tCB (rMaxA K) (tCons (tOp rAddA (tLst (tCons (tC (.int 0)) tNil)) (tLc (iList K (tVar 1)) (gName 4) tYes (tOp (rIx K) (tVar 4) (tC (.int 1))) [4])) tNil)))))))))
def sp_law_shows (K : Frg) : Sp := fun vs H Q E => vs.length = 2 ∧ t_law_shows K E { nx := fun _ H' => Q .non H', rt := Q } (start N_law_shows vs) H
theorem sc_law_shows : FnScope N_law_shows ["_law_row", "_law_pairs"] (defScope s_law_shows) := ⟨rfl, rfl, rfl, by decide +kernel, rfl, by decide +kernel, by decide +kernel⟩
theorem ok_law_shows (T : Txt PROG K mg) : ∃ fd, FnOk PROG w K mg base (L2.CX PROG w) 5 (Rz.pG "_law_shows" K) fd ["_law_row", "_law_pairs"] (sp_law_shows K) ∧ FunD K "_law_shows" "_law_shows" (defArgs s_law_shows) (defBody s_law_shows) (defScope s_law_shows) [] [] (Rz.pG "_law_shows" K) fd := by
  obtain ⟨fd_Row_signs, G_Row_signs, D_Row_signs⟩ := ok_Row_signs (w := w) (base := base) T
  obtain ⟨fd_Row_heights, G_Row_heights, D_Row_heights⟩ := ok_Row_heights (w := w) (base := base) T
  obtain ⟨fd_Row_iter, G_Row_iter, D_Row_iter⟩ := ok_Row_iter (w := w) (base := base) T
  obtain ⟨fd_Row_len, G_Row_len, D_Row_len⟩ := ok_Row_len (w := w) (base := base) T
  obtain ⟨fd_law_is_int, G_law_is_int, D_law_is_int⟩ := ok_law_is_int (w := w) (base := base) T
  obtain ⟨fd_Row_abs, G_Row_abs, D_Row_abs⟩ := ok_Row_abs (w := w) (base := base) T
  have b_Row_signs_1 : Binds K fd_Row_signs _ [] := D_Row_signs.bindsN (ps := ["self"]) (fun _ _ _ _ _ _ us hl => match us, hl with | [_], _ => rfl)
  have b_Row_heights_1 : Binds K fd_Row_heights _ [] := D_Row_heights.bindsN (ps := ["self"]) (fun _ _ _ _ _ _ us hl => match us, hl with | [_], _ => rfl)
  have b_Row_iter_1 : Binds K fd_Row_iter _ [] := D_Row_iter.bindsN (ps := ["self"]) (fun _ _ _ _ _ _ us hl => match us, hl with | [_], _ => rfl)
  have b_Row_len_1 : Binds K fd_Row_len _ [] := D_Row_len.bindsN (ps := ["self"]) (fun _ _ _ _ _ _ us hl => match us, hl with | [_], _ => rfl)
  have b_law_is_int_1 : Binds K fd_law_is_int _ [] := D_law_is_int.bindsN (ps := ["_law_value"]) (fun _ _ _ _ _ _ us hl => match us, hl with | [_], _ => rfl)
  have b_Row_abs_1 : Binds K fd_Row_abs _ [] := D_Row_abs.bindsN (ps := ["self"]) (fun _ _ _ _ _ _ us hl => match us, hl with | [_], _ => rfl)
  obtain ⟨fd, F⟩ := T.F_law_shows
  refine ⟨fd, F.ok sc_law_shows (fun vs H Q E h => h.1) (fun cdv A outer s H vs Q E hr h => ⟨t_law_shows K E, ?_, h.2⟩), F⟩
  exact (pss_cons (ps_if (PW.pt (pw_or (pt_not (pt_val (pe_callB c_isi rfl T.f_isinstance (by decide +kernel) (pa_cons (pv 0) (pa_cons (pe_glob rfl T.g_Row rfl) pa_nil))))) (pw_or (pt_not (pt_val (pe_callB c_isi rfl T.f_isinstance (by decide +kernel) (pa_cons (pe_prop (pv 0) T.c_Row T.p_Row_signs G_Row_signs (hr.mono (by decide)) b_Row_signs_1 .nil passL rfl) (pa_cons (pe_bltn rfl T.f_str (by decide +kernel) rfl) pa_nil))))) (pw_or1 (pt_not (pt_val (pe_callB c_isi rfl T.f_isinstance (by decide +kernel) (pa_cons (pe_prop (pv 0) T.c_Row T.p_Row_heights G_Row_heights (hr.mono (by decide)) b_Row_heights_1 .nil passL rfl) (pa_cons (pe_bltn rfl T.f_list (by decide +kernel) rfl) pa_nil))))))))) (pss_one (ps_ret pe_bl)) pss_nil) (pss_cons (ps_set (i := 2) sc_law_shows.nd rfl (by first | exact Or.inl rfl | exact Or.inr rfl) (pe_listO T.m_Row___iter__ T.m_Row___len__ G_Row_iter G_Row_len (hr.mono (by decide)) (hr.mono (by decide)) b_Row_iter_1 b_Row_len_1 (fun σ => passAt (takes_of rfl rfl rfl rfl) σ) shut_CX rfl rfl T.f_list (pa_cons (pv 0) pa_nil))) (pss_cons (ps_if (PW.pt (pw_or (pt_cmpR (op_neA hr) (pe_callB c_len rfl T.f_len (by decide +kernel) (pa_cons (pv 2) pa_nil)) (pe_callB c_len rfl T.f_len (by decide +kernel) (pa_cons (pv 1) pa_nil)) (nomark _)) (pw_or (pt_cmpR (op_neA hr) (pe_lenO T.m_Row___len__ G_Row_len (hr.mono (by decide)) b_Row_len_1 (fun σ => passAt (takes_of rfl rfl rfl rfl) σ) rfl T.f_len (pa_cons (pv 0) pa_nil)) (pe_callB c_len rfl T.f_len (by decide +kernel) (pa_cons (pv 1) pa_nil)) (nomark _)) (pw_or1 (pt_cmpR (op_neA hr) (pe_callB c_len rfl T.f_len (by decide +kernel) (pa_cons (pe_prop (pv 0) T.c_Row T.p_Row_heights G_Row_heights (hr.mono (by decide)) b_Row_heights_1 .nil passL rfl) pa_nil)) (pe_callB c_len rfl T.f_len (by decide +kernel) (pa_cons (pv 1) pa_nil)) (nomark _)))))) (pss_one (ps_ret pe_bl)) pss_nil) (pss_cons (ps_for (passes_of rfl) rfl (pi_range1 rfl T.f_range (pa_cons (pe_callB c_len rfl T.f_len (by decide +kernel) (pa_cons (pv 1) pa_nil)) pa_nil)) (pg_name (i := 3) sc_law_shows.nd rfl (by first | exact Or.inl rfl | exact Or.inr rfl)) (pss_cons (ps_if (PW.pt (pw_or (pt_not (pt_val (pe_callB c_isi rfl T.f_isinstance (by decide +kernel) (pa_cons (pe_ix ix_seq (pv 2) (pv 3) (fun _ _ => rfl)) (pa_cons (pe_bltn rfl T.f_tuple (by decide +kernel) rfl) pa_nil))))) (pw_or (pt_cmpR (op_neA hr) (pe_ix ix_seq (pv 2) (pv 3) (fun _ _ => rfl)) (pe_ix ix_seq (pv 1) (pv 3) (fun _ _ => rfl)) (nomark _)) (pw_or1 (pt_not (pt_val (pe_callSD G_law_is_int (hr.mono (by decide)) rfl T.g__law_is_int D_law_is_int.kp b_law_is_int_1 .nil (fun σ => passAt (takes_of rfl rfl rfl rfl) σ) (pa_cons (pe_ix ix_seq (pe_ix ix_seq (pv 2) (pv 3) (fun _ _ => rfl)) pe_int (fun _ _ => rfl)) pa_nil)))))))) (pss_one (ps_ret pe_bl)) pss_nil) (pss_one (ps_if (PW.pt (pw_or (pt_cmpR (op_neA hr) (pe_ix ix_seq (pe_prop (pv 0) T.c_Row T.p_Row_heights G_Row_heights (hr.mono (by decide)) b_Row_heights_1 .nil passL rfl) (pv 3) (fun _ _ => rfl)) (pe_ix ix_seq (pe_ix ix_seq (pv 1) (pv 3) (fun _ _ => rfl)) pe_int (fun _ _ => rfl)) (nomark _)) (pw_or1 (pt_not (pt_val (pe_callSD G_law_is_int (hr.mono (by decide)) rfl T.g__law_is_int D_law_is_int.kp b_law_is_int_1 .nil (fun σ => passAt (takes_of rfl rfl rfl rfl) σ) (pa_cons (pe_ix ix_seq (pe_prop (pv 0) T.c_Row T.p_Row_heights G_Row_heights (hr.mono (by decide)) b_Row_heights_1 .nil passL rfl) (pv 3) (fun _ _ => rfl)) pa_nil))))))) (pss_one (ps_ret pe_bl)) pss_nil)))) (pss_cons (ps_if (PW.pt (pw_or (pt_cmpR (op_neA hr) (pe_prop (pv 0) T.c_Row T.p_Row_signs G_Row_signs (hr.mono (by decide)) b_Row_signs_1 .nil passL rfl) (pe_joinA pe_str (pe_lc (own := [("_law_pair", 4)]) rfl sc_law_shows.nd (pi_list (pv 1)) (blkOk_by (own := [("_law_pair", 4)]) (N := N_law_shows) (sc := defScope s_law_shows) (by decide +kernel)) (fun _ _ _ _ _ => (pg_name (i := 4) sc_law_shows.nd rfl (by first | exact Or.inl rfl | exact Or.inr rfl))) (fun _ _ _ _ _ => pts_nil) (fun _ _ _ _ _ => (pe_ix ix_seq (pv 4) pe_int (fun _ _ => rfl))))) (nomark _)) (pw_or1 (pt_not (pt_val (pe_callSD G_law_is_int (hr.mono (by decide)) rfl T.g__law_is_int D_law_is_int.kp b_law_is_int_1 .nil (fun σ => passAt (takes_of rfl rfl rfl rfl) σ) (pa_cons (pe_absO T.m_Row___abs__ G_Row_abs (hr.mono (by decide)) b_Row_abs_1 (fun σ => passAt (takes_of rfl rfl rfl rfl) σ) rfl T.f_abs (pa_cons (pv 0) pa_nil)) pa_nil))))))) (pss_one (ps_ret pe_bl)) pss_nil) (pss_one (ps_ret (pe_cmpR (op_eqA hr) (pe_absO T.m_Row___abs__ G_Row_abs (hr.mono (by decide)) b_Row_abs_1 (fun σ => passAt (takes_of rfl rfl rfl rfl) σ) rfl T.f_abs (pa_cons (pv 0) pa_nil)) (pe_callB (c_max rfl) rfl T.f_max (by decide +kernel) (pa_cons (pe_op op_addA (pe_lst (pa_cons pe_int pa_nil)) (pe_lc (own := [("_law_pair", 4)]) rfl sc_law_shows.nd (pi_list (pv 1)) (blkOk_by (own := [("_law_pair", 4)]) (N := N_law_shows) (sc := defScope s_law_shows) (by decide +kernel)) (fun _ _ _ _ _ => (pg_name (i := 4) sc_law_shows.nd rfl (by first | exact Or.inl rfl | exact Or.inr rfl))) (fun _ _ _ _ _ => pts_nil) (fun _ _ _ _ _ => (pe_ix ix_seq (pv 4) pe_int (fun _ _ => rfl))))) pa_nil)) (nomark _)))))))))
/-! law -/
abbrev N_law : List Str := ["_law_script", "_law_draws", "_law_first", "_law_second", "_law_string", "_law_one", "_law_two", "_law_inside", "_law_at", "_law_signs", "_law_pair"]
def t_law (K : Frg) (E : XK) : TS :=
  (tSeq (tAsg (tCallSD (sp_law_pool K) [] (WE (W0 E)) (tCons (tVar 0) tNil)) (gName 1)) (tSeq (tAsg (tCallSD (sp_law_row_of K) [] (WE (W0 E)) (tCons (tVar 1) (tCons (tC (.int 7)) tNil))) (gName 2)) (tSeq (tAsg (tCallSD (sp_law_near K) [] (WE (W0 E)) (tCons (tVar 1) (tCons (tVar 2) tNil))) (gName 3)) (tSeq (tAsg (tCallSD (sp_law_string_of K) [] (WE (W0 E)) (tCons (tVar 1) (tCons (tVar 2) tNil))) (gName 4)) (tSeq (tAsg (tCallSD (sp_law_as_row K) [] (WE (W0 E)) (tCons (tVar 2) tNil)) (gName 5)) (tSeq (tAsg (tCallSD (sp_law_as_row K) [] (WE (W0 E)) (tCons (tVar 3) tNil)) (gName 6)) (tSeq (tIfS (tOr (tNot (tTruth K (tCallSD (sp_law_is K) [] (WE (W0 E)) (tCons (tOp (rCmpO false (He.ga K "Row") (sp_Row_eq K) (spn_Row_eq K)) (tVar 5) (tVar 6)) (tCons (tOp (rEqA K) (tVar 2) (tVar 3)) tNil))))) (tNot (tTruth K (tCallSD (sp_law_is K) [] (WE (W0 E)) (tCons (tOp (rCmpO true (He.ga K "Row") (sp_Row_eq K) (spn_Row_eq K)) (tVar 5) (tVar 6)) (tCons (tOp (rNeA K) (tVar 2) (tVar 3)) tNil)))))) (tRet (tC (.bl false))) tNext) (tSeq (tIfS (tOr (tNot (tTruth K (tCallSD (sp_law_is K) [] (WE (W0 E)) (tCons (tOp (rLtO (He.ga K "Row") (sp_Row_lt K)) (tVar 5) (tVar 6)) (tCons (tOp (rLtD K) (tVar 2) (tVar 3)) tNil))))) (tNot (tTruth K (tCallSD (sp_law_is K) [] (WE (W0 E)) (tCons (tOp (rLtO (He.ga K "Row") (sp_Row_lt K)) (tVar 6) (tVar 5)) (tCons (tOp (rLtD K) (tVar 3) (tVar 2)) tNil)))))) (tRet (tC (.bl false))) tNext) (tSeq (tIfS (tOr (tNot (tTruth K (tCallSD (sp_law_is K) [] (WE (W0 E)) (tCons (tOp (rLtO (He.ga K "Row") (sp_Row_lt K)) (tVar 5) (tVar 5)) (tCons (tC (.bl false)) tNil))))) (tNot (tTruth K (tCallSD (sp_law_is K) [] (WE (W0 E)) (tCons (tOp (rCmpO false (He.ga K "Row") (sp_Row_eq K) (spn_Row_eq K)) (tVar 5) (tVar 5)) (tCons (tC (.bl true)) tNil)))))) (tRet (tC (.bl false))) tNext) (tSeq (tAsg (tC (.bl false)) (gName 7)) (tSeq (tFor (iRng1 (tCons (tOp rAddA (tOp rSubA (tCB (rLenA K) (tCons (tVar 2) tNil)) (tCB (rLenA K) (tCons (tVar 3) tNil))) (tC (.int 1))) tNil)) (gName 8) (tIfS (tTest (tOp (rEqA K) (tSl (rSlA K) (tVar 2) (tPart (tVar 8)) (tPart (tOp rAddA (tVar 8) (tCB (rLenA K) (tCons (tVar 3) tNil))))) (tVar 3))) (tAsg (tC (.bl true)) (gName 7)) tNext)) (tSeq (tIfS (tOr (tNot (tTruth K (tCallSD (sp_law_is K) [] (WE (W0 E)) (tCons (tInO (He.ga K "Row") (sp_Row_contains K) (WE (W0 E)) (tVar 6) (tVar 5)) (tCons (tVar 7) tNil))))) (tOr (tNot (tTruth K (tCallSD (sp_law_is K) [] (WE (W0 E)) (tCons (tInO (He.ga K "Row") (sp_Row_contains K) (WE (W0 E)) (tMakeS (He.ga K "Row") (sp_Row_init K) (List.drop 0 [.str "", .non]) (WE (W0 E)) tNil) (tVar 5)) (tCons (tC (.bl true)) tNil))))) (tNot (tTruth K (tCallSD (sp_law_is K) [] (WE (W0 E)) (tCons (tInO (He.ga K "Row") (sp_Row_contains K) (WE (W0 E)) (tVar 5) (tVar 5)) (tCons (tC (.bl true)) tNil))))))) (tRet (tC (.bl false))) tNext) (tSeq (tAsg (tM1 (rJoinA K) (tC (.str "")) (tLc (iList K (tVar 2)) (gName 10) tYes (tOp (rIx K) (tVar 10) (tC (.int 0))) [10])) (gName 9)) (tSeq (tIfS (tOr (tNot (tTruth K (tCallSD (sp_law_is K) [] (WE (W0 E)) (tCons (tInO (He.ga K "Row") (sp_Row_contains K) (WE (W0 E)) (tVar 4) (tVar 5)) (tCons (tOp (rInA K) (tVar 4) (tVar 9)) tNil))))) (tNot (tTruth K (tCallSD (sp_law_is K) [] (WE (W0 E)) (tCons (tInO (He.ga K "Row") (sp_Row_contains K) (WE (W0 E)) (tC (.str "")) (tVar 5)) (tCons (tC (.bl true)) tNil)))))) (tRet (tC (.bl false))) tNext) (tSeq (tIfS (tOr (tNot (tTruth K (tCallSD (sp_law_is K) [] (WE (W0 E)) (tCons (tOp (rCmpO false (He.ga K "Row") (sp_Row_eq K) (spn_Row_eq K)) (tVar 5) (tVar 9)) (tCons (tC (.bl false)) tNil))))) (tNot (tTruth K (tCallSD (sp_law_is K) [] (WE (W0 E)) (tCons (tOp (rCmpO false (He.ga K "Row") (sp_Row_eq K) (spn_Row_eq K)) (tVar 5) (tVar 2)) (tCons (tC (.bl false)) tNil)))))) (tRet (tC (.bl false))) tNext) (tSeq (tIfS (tOr (tNot (tTruth K (tCallSD (sp_law_is K) [] (WE (W0 E)) (tCons (tOp (rCmpO true (He.ga K "Row") (sp_Row_eq K) (spn_Row_eq K)) (tVar 5) (tVar 9)) (tCons (tC (.bl true)) tNil))))) (tNot (tTruth K (tCallSD (sp_law_is K) [] (WE (W0 E)) (tCons (tOp (rCmpO true (He.ga K "Row") (sp_Row_eq K) (spn_Row_eq K)) (tVar 5) (tVar 2)) (tCons (tC (.bl true)) tNil)))))) (tRet (tC (.bl false))) tNext) (tRet (tAndV (tCallSD (sp_law_shows K) [] (WE (W0 E)) (tCons (tVar 5) (tCons (tVar 2) tNil))) (tCallSD (sp_law_shows K) [] (WE (W0 E)) (tCons (tVar 6) (tCons (tVar 3) tNil)))))))))))))))))))))
def sp_law (K : Frg) : Sp := fun vs H Q E => vs.length = 1 ∧ t_law K E { nx := fun _ H' => Q .non H', rt := Q } (start N_law vs) H
theorem sc_law : FnScope N_law ["_law_script"] (defScope s_law) := ⟨rfl, rfl, rfl, by decide +kernel, rfl, by decide +kernel, by decide +kernel⟩
theorem ok_law (T : Txt PROG K mg) : ∃ fd, FnOk PROG w K mg base (L2.CX PROG w) 6 (Rz.pG "law" K) fd ["_law_script"] (sp_law K) ∧ FunD K "law" "law" (defArgs s_law) (defBody s_law) (defScope s_law) [] [] (Rz.pG "law" K) fd := by
  obtain ⟨fd_law_pool, G_law_pool, D_law_pool⟩ := ok_law_pool (w := w) (base := base) T
  obtain ⟨fd_law_row_of, G_law_row_of, D_law_row_of⟩ := ok_law_row_of (w := w) (base := base) T
  obtain ⟨fd_law_near, G_law_near, D_law_near⟩ := ok_law_near (w := w) (base := base) T
  obtain ⟨fd_law_string_of, G_law_string_of, D_law_string_of⟩ := ok_law_string_of (w := w) (base := base) T
  obtain ⟨fd_law_as_row, G_law_as_row, D_law_as_row⟩ := ok_law_as_row (w := w) (base := base) T
  obtain ⟨fd_law_is, G_law_is, D_law_is⟩ := ok_law_is (w := w) (base := base) T
  obtain ⟨fd_Row_eq, G_Row_eq, D_Row_eq⟩ := ok_Row_eq (w := w) (base := base) T
  obtain ⟨fd_Row_lt, G_Row_lt, D_Row_lt⟩ := ok_Row_lt (w := w) (base := base) T
  obtain ⟨fd_Row_contains, G_Row_contains, D_Row_contains⟩ := ok_Row_contains (w := w) (base := base) T
  obtain ⟨fd_Row_init, G_Row_init, D_Row_init⟩ := ok_Row_init (w := w) (base := base) T
  obtain ⟨fd_law_shows, G_law_shows, D_law_shows⟩ := ok_law_shows (w := w) (base := base) T
  have b_law_pool_1 : Binds K fd_law_pool _ [] := D_law_pool.bindsN (ps := ["_law_script"]) (fun _ _ _ _ _ _ us hl => match us, hl with | [_], _ => rfl)
  have b_law_row_of_2 : Binds K fd_law_row_of _ [] := D_law_row_of.bindsN (ps := ["_law_draws", "_law_greatest"]) (fun _ _ _ _ _ _ us hl => match us, hl with | [_, _], _ => rfl)
  have b_law_near_2 : Binds K fd_law_near _ [] := D_law_near.bindsN (ps := ["_law_draws", "_law_pairs"]) (fun _ _ _ _ _ _ us hl => match us, hl with | [_, _], _ => rfl)
  have b_law_string_of_2 : Binds K fd_law_string_of _ [] := D_law_string_of.bindsN (ps := ["_law_draws", "_law_pairs"]) (fun _ _ _ _ _ _ us hl => match us, hl with | [_, _], _ => rfl)
  have b_law_as_row_1 : Binds K fd_law_as_row _ [] := D_law_as_row.bindsN (ps := ["_law_pairs"]) (fun _ _ _ _ _ _ us hl => match us, hl with | [_], _ => rfl)
  have b_law_is_2 : Binds K fd_law_is _ [] := D_law_is.bindsN (ps := ["_law_told", "_law_due"]) (fun _ _ _ _ _ _ us hl => match us, hl with | [_, _], _ => rfl)
  have b_Row_eq_2 : Binds K fd_Row_eq _ [] := D_Row_eq.bindsN (ps := ["self", "other"]) (fun _ _ _ _ _ _ us hl => match us, hl with | [_, _], _ => rfl)
  have b_Row_lt_2 : Binds K fd_Row_lt _ [] := D_Row_lt.bindsN (ps := ["self", "other"]) (fun _ _ _ _ _ _ us hl => match us, hl with | [_, _], _ => rfl)
  have b_Row_contains_2 : Binds K fd_Row_contains _ [] := D_Row_contains.bindsN (ps := ["self", "part"]) (fun _ _ _ _ _ _ us hl => match us, hl with | [_, _], _ => rfl)
  obtain ⟨ds_Row_init_1, V_Row_init_1, b_Row_init_1⟩ := D_Row_init.binds1 (ps := ["self", "text", "heights"]) 1 0 (by simp) rfl (fun _ _ _ _ _ _ _ us its h1 h2 => match us, its, h1, h2 with | [_], [_, _], _, _ => ⟨_, rfl, rfl⟩)
  have b_law_shows_2 : Binds K fd_law_shows _ [] := D_law_shows.bindsN (ps := ["_law_row", "_law_pairs"]) (fun _ _ _ _ _ _ us hl => match us, hl with | [_, _], _ => rfl)
  obtain ⟨fd, F⟩ := T.F_law
  refine ⟨fd, F.ok sc_law (fun vs H Q E h => h.1) (fun cdv A outer s H vs Q E hr h => ⟨t_law K E, ?_, h.2⟩), F⟩
  exact (pss_cons (ps_set (i := 1) sc_law.nd rfl (by first | exact Or.inl rfl | exact Or.inr rfl) (pe_callSD G_law_pool (hr.mono (by decide)) rfl T.g__law_pool D_law_pool.kp b_law_pool_1 .nil (fun σ => passAt (takes_of rfl rfl rfl rfl) σ) (pa_cons (pv 0) pa_nil))) (pss_cons (ps_set (i := 2) sc_law.nd rfl (by first | exact Or.inl rfl | exact Or.inr rfl) (pe_callSD G_law_row_of (hr.mono (by decide)) rfl T.g__law_row_of D_law_row_of.kp b_law_row_of_2 .nil (fun σ => passAt (takes_of rfl rfl rfl rfl) σ) (pa_cons (pv 1) (pa_cons pe_int pa_nil)))) (pss_cons (ps_set (i := 3) sc_law.nd rfl (by first | exact Or.inl rfl | exact Or.inr rfl) (pe_callSD G_law_near (hr.mono (by decide)) rfl T.g__law_near D_law_near.kp b_law_near_2 .nil (fun σ => passAt (takes_of rfl rfl rfl rfl) σ) (pa_cons (pv 1) (pa_cons (pv 2) pa_nil)))) (pss_cons (ps_set (i := 4) sc_law.nd rfl (by first | exact Or.inl rfl | exact Or.inr rfl) (pe_callSD G_law_string_of (hr.mono (by decide)) rfl T.g__law_string_of D_law_string_of.kp b_law_string_of_2 .nil (fun σ => passAt (takes_of rfl rfl rfl rfl) σ) (pa_cons (pv 1) (pa_cons (pv 2) pa_nil)))) (pss_cons (ps_set (i := 5) sc_law.nd rfl (by first | exact Or.inl rfl | exact Or.inr rfl) (pe_callSD G_law_as_row (hr.mono (by decide)) rfl T.g__law_as_row D_law_as_row.kp b_law_as_row_1 .nil (fun σ => passAt (takes_of rfl rfl rfl rfl) σ) (pa_cons (pv 2) pa_nil))) (pss_cons (ps_set (i := 6) sc_law.nd rfl (by first | exact Or.inl rfl | exact Or.inr rfl) (pe_callSD G_law_as_row (hr.mono (by decide)) rfl T.g__law_as_row D_law_as_row.kp b_law_as_row_1 .nil (fun σ => passAt (takes_of rfl rfl rfl rfl) σ) (pa_cons (pv 3) pa_nil))) (pss_cons (ps_if (PW.pt (pw_or (pt_not (pt_truth (pe_callSD G_law_is (hr.mono (by decide)) rfl T.g__law_is D_law_is.kp b_law_is_2 .nil (fun σ => passAt (takes_of rfl rfl rfl rfl) σ) (pa_cons (pe_cmpR (op_cmpO (.inl ⟨rfl, rfl⟩) T.m_Row___eq__ T.eqc_Row G_Row_eq (okN_Row_eq T D_Row_eq) (hr.mono (by decide)) b_Row_eq_2 (fun σ => passE0 σ)) (pv 5) (pv 6) (nomark _)) (pa_cons (pe_cmpR (op_eqA hr) (pv 2) (pv 3) (nomark _)) pa_nil))) (by intro _; rfl))) (pw_or1 (pt_not (pt_truth (pe_callSD G_law_is (hr.mono (by decide)) rfl T.g__law_is D_law_is.kp b_law_is_2 .nil (fun σ => passAt (takes_of rfl rfl rfl rfl) σ) (pa_cons (pe_cmpR (op_cmpO (.inr ⟨rfl, rfl⟩) T.m_Row___eq__ T.eqc_Row G_Row_eq (okN_Row_eq T D_Row_eq) (hr.mono (by decide)) b_Row_eq_2 (fun σ => passE0 σ)) (pv 5) (pv 6) (nomark _)) (pa_cons (pe_cmpR (op_neA hr) (pv 2) (pv 3) (nomark _)) pa_nil))) (by intro _; rfl)))))) (pss_one (ps_ret pe_bl)) pss_nil) (pss_cons (ps_if (PW.pt (pw_or (pt_not (pt_truth (pe_callSD G_law_is (hr.mono (by decide)) rfl T.g__law_is D_law_is.kp b_law_is_2 .nil (fun σ => passAt (takes_of rfl rfl rfl rfl) σ) (pa_cons (pe_cmpR (op_ltO T.m_Row___lt__ G_Row_lt (hr.mono (by decide)) b_Row_lt_2 (fun σ => passE0 σ)) (pv 5) (pv 6) (nomark _)) (pa_cons (pe_cmpR (op_ltD hr.units) (pv 2) (pv 3) (nomark _)) pa_nil))) (by intro _; rfl))) (pw_or1 (pt_not (pt_truth (pe_callSD G_law_is (hr.mono (by decide)) rfl T.g__law_is D_law_is.kp b_law_is_2 .nil (fun σ => passAt (takes_of rfl rfl rfl rfl) σ) (pa_cons (pe_cmpR (op_ltO T.m_Row___lt__ G_Row_lt (hr.mono (by decide)) b_Row_lt_2 (fun σ => passE0 σ)) (pv 6) (pv 5) (nomark _)) (pa_cons (pe_cmpR (op_ltD hr.units) (pv 3) (pv 2) (nomark _)) pa_nil))) (by intro _; rfl)))))) (pss_one (ps_ret pe_bl)) pss_nil) (pss_cons (ps_if (PW.pt (pw_or (pt_not (pt_truth (pe_callSD G_law_is (hr.mono (by decide)) rfl T.g__law_is D_law_is.kp b_law_is_2 .nil (fun σ => passAt (takes_of rfl rfl rfl rfl) σ) (pa_cons (pe_cmpR (op_ltO T.m_Row___lt__ G_Row_lt (hr.mono (by decide)) b_Row_lt_2 (fun σ => passE0 σ)) (pv 5) (pv 5) (nomark _)) (pa_cons pe_bl pa_nil))) (by intro _; rfl))) (pw_or1 (pt_not (pt_truth (pe_callSD G_law_is (hr.mono (by decide)) rfl T.g__law_is D_law_is.kp b_law_is_2 .nil (fun σ => passAt (takes_of rfl rfl rfl rfl) σ) (pa_cons (pe_cmpR (op_cmpO (.inl ⟨rfl, rfl⟩) T.m_Row___eq__ T.eqc_Row G_Row_eq (okN_Row_eq T D_Row_eq) (hr.mono (by decide)) b_Row_eq_2 (fun σ => passE0 σ)) (pv 5) (pv 5) (nomark _)) (pa_cons pe_bl pa_nil))) (by intro _; rfl)))))) (pss_one (ps_ret pe_bl)) pss_nil) (pss_cons (ps_set (i := 7) sc_law.nd rfl (by first | exact Or.inl rfl | exact Or.inr rfl) pe_bl) (pss_cons (ps_for (passes_of rfl) rfl (pi_range1 rfl T.f_range (pa_cons (pe_op op_addA (pe_op op_subA (pe_callB c_len rfl T.f_len (by decide +kernel) (pa_cons (pv 2) pa_nil)) (pe_callB c_len rfl T.f_len (by decide +kernel) (pa_cons (pv 3) pa_nil))) pe_int) pa_nil)) (pg_name (i := 8) sc_law.nd rfl (by first | exact Or.inl rfl | exact Or.inr rfl)) (pss_one (ps_if (pt_cmpR (op_eqA hr) (pe_slice sl_A (pv 2) (po_some (pv 8)) (po_some (pe_op op_addA (pv 8) (pe_callB c_len rfl T.f_len (by decide +kernel) (pa_cons (pv 3) pa_nil))))) (pv 3) (nomark _)) (pss_one (ps_set (i := 7) sc_law.nd rfl (by first | exact Or.inl rfl | exact Or.inr rfl) pe_bl)) pss_nil))) (pss_cons (ps_if (PW.pt (pw_or (pt_not (pt_truth (pe_callSD G_law_is (hr.mono (by decide)) rfl T.g__law_is D_law_is.kp b_law_is_2 .nil (fun σ => passAt (takes_of rfl rfl rfl rfl) σ) (pa_cons (pe_inO T.m_Row___contains__ G_Row_contains (hr.mono (by decide)) b_Row_contains_2 (fun σ => passAt (takes_of rfl rfl rfl rfl) σ) (pv 6) (pv 5) (by rfl)) (pa_cons (pv 7) pa_nil))) (by intro _; rfl))) (pw_or (pt_not (pt_truth (pe_callSD G_law_is (hr.mono (by decide)) rfl T.g__law_is D_law_is.kp b_law_is_2 .nil (fun σ => passAt (takes_of rfl rfl rfl rfl) σ) (pa_cons (pe_inO T.m_Row___contains__ G_Row_contains (hr.mono (by decide)) b_Row_contains_2 (fun σ => passAt (takes_of rfl rfl rfl rfl) σ) (pe_make0S T.mk_Row G_Row_init (hr.mono (by decide)) rfl T.g_Row b_Row_init_1 V_Row_init_1 (fun σ => passAt (takes_of rfl rfl rfl rfl) σ)) (pv 5) (by rfl)) (pa_cons pe_bl pa_nil))) (by intro _; rfl))) (pw_or1 (pt_not (pt_truth (pe_callSD G_law_is (hr.mono (by decide)) rfl T.g__law_is D_law_is.kp b_law_is_2 .nil (fun σ => passAt (takes_of rfl rfl rfl rfl) σ) (pa_cons (pe_inO T.m_Row___contains__ G_Row_contains (hr.mono (by decide)) b_Row_contains_2 (fun σ => passAt (takes_of rfl rfl rfl rfl) σ) (pv 5) (pv 5) (by rfl)) (pa_cons pe_bl pa_nil))) (by intro _; rfl))))))) (pss_one (ps_ret pe_bl)) pss_nil) (pss_cons (ps_set (i := 9) sc_law.nd rfl (by first | exact Or.inl rfl | exact Or.inr rfl) (pe_joinA pe_str (pe_lc (own := [("_law_pair", 10)]) rfl sc_law.nd (pi_list (pv 2)) (blkOk_by (own := [("_law_pair", 10)]) (N := N_law) (sc := defScope s_law) (by decide +kernel)) (fun _ _ _ _ _ => (pg_name (i := 10) sc_law.nd rfl (by first | exact Or.inl rfl | exact Or.inr rfl))) (fun _ _ _ _ _ => pts_nil) (fun _ _ _ _ _ => (pe_ix ix_seq (pv 10) pe_int (fun _ _ => rfl)))))) (pss_cons (ps_if (PW.pt (pw_or (pt_not (pt_truth (pe_callSD G_law_is (hr.mono (by decide)) rfl T.g__law_is D_law_is.kp b_law_is_2 .nil (fun σ => passAt (takes_of rfl rfl rfl rfl) σ) (pa_cons (pe_inO T.m_Row___contains__ G_Row_contains (hr.mono (by decide)) b_Row_contains_2 (fun σ => passAt (takes_of rfl rfl rfl rfl) σ) (pv 4) (pv 5) (by rfl)) (pa_cons (pe_cmpR op_inA (pv 4) (pv 9) (by rfl)) pa_nil))) (by intro _; rfl))) (pw_or1 (pt_not (pt_truth (pe_callSD G_law_is (hr.mono (by decide)) rfl T.g__law_is D_law_is.kp b_law_is_2 .nil (fun σ => passAt (takes_of rfl rfl rfl rfl) σ) (pa_cons (pe_inO T.m_Row___contains__ G_Row_contains (hr.mono (by decide)) b_Row_contains_2 (fun σ => passAt (takes_of rfl rfl rfl rfl) σ) pe_str (pv 5) (by rfl)) (pa_cons pe_bl pa_nil))) (by intro _; rfl)))))) (pss_one (ps_ret pe_bl)) pss_nil) (pss_cons (ps_if (PW.pt (pw_or (pt_not (pt_truth (pe_callSD G_law_is (hr.mono (by decide)) rfl T.g__law_is D_law_is.kp b_law_is_2 .nil (fun σ => passAt (takes_of rfl rfl rfl rfl) σ) (pa_cons (pe_cmpR (op_cmpO (.inl ⟨rfl, rfl⟩) T.m_Row___eq__ T.eqc_Row G_Row_eq (okN_Row_eq T D_Row_eq) (hr.mono (by decide)) b_Row_eq_2 (fun σ => passE0 σ)) (pv 5) (pv 9) (nomark _)) (pa_cons pe_bl pa_nil))) (by intro _; rfl))) (pw_or1 (pt_not (pt_truth (pe_callSD G_law_is (hr.mono (by decide)) rfl T.g__law_is D_law_is.kp b_law_is_2 .nil (fun σ => passAt (takes_of rfl rfl rfl rfl) σ) (pa_cons (pe_cmpR (op_cmpO (.inl ⟨rfl, rfl⟩) T.m_Row___eq__ T.eqc_Row G_Row_eq (okN_Row_eq T D_Row_eq) (hr.mono (by decide)) b_Row_eq_2 (fun σ => passE0 σ)) (pv 5) (pv 2) (nomark _)) (pa_cons pe_bl pa_nil))) (by intro _; rfl)))))) (pss_one (ps_ret pe_bl)) pss_nil) (pss_cons (ps_if (PW.pt (pw_or (pt_not (pt_truth (pe_callSD G_law_is (hr.mono (by decide)) rfl T.g__law_is D_law_is.kp b_law_is_2 .nil (fun σ => passAt (takes_of rfl rfl rfl rfl) σ) (pa_cons (pe_cmpR (op_cmpO (.inr ⟨rfl, rfl⟩) T.m_Row___eq__ T.eqc_Row G_Row_eq (okN_Row_eq T D_Row_eq) (hr.mono (by decide)) b_Row_eq_2 (fun σ => passE0 σ)) (pv 5) (pv 9) (nomark _)) (pa_cons pe_bl pa_nil))) (by intro _; rfl))) (pw_or1 (pt_not (pt_truth (pe_callSD G_law_is (hr.mono (by decide)) rfl T.g__law_is D_law_is.kp b_law_is_2 .nil (fun σ => passAt (takes_of rfl rfl rfl rfl) σ) (pa_cons (pe_cmpR (op_cmpO (.inr ⟨rfl, rfl⟩) T.m_Row___eq__ T.eqc_Row G_Row_eq (okN_Row_eq T D_Row_eq) (hr.mono (by decide)) b_Row_eq_2 (fun σ => passE0 σ)) (pv 5) (pv 2) (nomark _)) (pa_cons pe_bl pa_nil))) (by intro _; rfl)))))) (pss_one (ps_ret pe_bl)) pss_nil) (pss_one (ps_ret (pe_and (pe_callSD G_law_shows (hr.mono (by decide)) rfl T.g__law_shows D_law_shows.kp b_law_shows_2 .nil (fun σ => passAt (takes_of rfl rfl rfl rfl) σ) (pa_cons (pv 5) (pa_cons (pv 2) pa_nil))) (pe_one (pe_callSD G_law_shows (hr.mono (by decide)) rfl T.g__law_shows D_law_shows.kp b_law_shows_2 .nil (fun σ => passAt (takes_of rfl rfl rfl rfl) σ) (pa_cons (pv 6) (pa_cons (pv 3) pa_nil)))))))))))))))))))))))
end
theorem txt_of {K : Frg} {h : Heap} {mg : Str → Option Value} (KX : K.In h) (G : h.Ns mainGlobals mg) (c : Rz.SaysR fa fn K) : Txt PROG K mg where
  f_abs := He.free_ok KX G (c.fact 0)
  f_int := He.free_ok KX G (c.fact 1)
  f_range := He.free_ok KX G (c.fact 2)
  F_law_pool := c.fun_ 0
  g__law_pool := He.glo_ok KX G (c.fact 3)
  F_law_pick := c.fun_ 1
  g__law_pick := He.glo_ok KX G (c.fact 4)
  F_law_row_of := c.fun_ 2
  g__law_row_of := He.glo_ok KX G (c.fact 5)
  f_len := He.free_ok KX G (c.fact 6)
  f_list := He.free_ok KX G (c.fact 7)
  F_law_near := c.fun_ 3
  g__law_near := He.glo_ok KX G (c.fact 8)
  F_law_odd_sign := c.fun_ 4
  g__law_odd_sign := He.glo_ok KX G (c.fact 9)
  F_law_string_of := c.fun_ 5
  g__law_string_of := He.glo_ok KX G (c.fact 10)
  ty_Row := Rz.tyB_ok (c.fact 11)
  i_str_Row := of_decide_eq_true (c.fact 12)
  i_list_Row := of_decide_eq_true (c.fact 13)
  i_Row_str := of_decide_eq_true (c.fact 14)
  f_bytes := He.free_ok KX G (c.fact 15)
  f_isinstance := He.free_ok KX G (c.fact 16)
  F_as_string := c.fun_ 6
  g_as_string := He.glo_ok KX G (c.fact 17)
  f_enumerate := He.free_ok KX G (c.fact 18)
  k_SIGNS := He.str_ok KX G (c.fact 19)
  xb_BadSign := Rz.excB_ok (c.fact 20)
  n_BadSign_at := He.noat_ok (c.fact 21)
  x_BadSign := ⟨(Rz.excB_ok (c.fact 20)).1, He.noat_ok (c.fact 21), _, _, _, _, _, ("at" : Str), _, _, _, _, _, _, _, _, _, _, _, _, (Rz.iniB_ok (c.fact 22) (by decide +kernel) rfl (c.def_ 22).1 (c.def_ 22).2 rfl rfl), ⟨⟨rfl, by decide +kernel, by decide +kernel, by decide +kernel, ⟨_, rfl, rfl⟩, by decide +kernel⟩, by decide +kernel, by decide +kernel, by decide +kernel⟩, fun _ _ => ⟨_, rfl, rfl⟩, rfl, rfl, fun _ _ _ _ _ _ _ _ _ _ => rfl⟩
  f_super := He.free_ok KX G (c.fact 23)
  g_BadSign := He.glo_ok KX G (c.fact 24)
  F_check_text := c.fun_ 7
  g_check_text := He.glo_ok KX G (c.fact 25)
  xb_Uneven := Rz.excB_ok (c.fact 26)
  x_Uneven := ⟨(Rz.excB_ok (c.fact 26)).1, _, _, _, _, _, _, _, _, _, _, _, _, _, (Rz.iniB_ok (c.fact 27) (by decide +kernel) rfl (c.def_ 23).1 (c.def_ 23).2 rfl rfl), ⟨rfl, by decide +kernel, by decide +kernel, by decide +kernel, ⟨_, rfl, rfl⟩, by decide +kernel⟩, fun _ _ => ⟨_, rfl, rfl⟩, rfl, rfl, fun _ _ _ _ _ _ _ _ _ => rfl⟩
  g_Uneven := He.glo_ok KX G (c.fact 28)
  k_TOP := He.int_ok KX G (c.fact 29)
  xb_BadHeight := Rz.excB_ok (c.fact 30)
  n_BadHeight_height := He.noat_ok (c.fact 31)
  x_BadHeight := ⟨(Rz.excB_ok (c.fact 30)).1, He.noat_ok (c.fact 31), _, _, _, _, _, ("height" : Str), _, _, _, _, _, _, _, _, _, _, _, _, (Rz.iniB_ok (c.fact 32) (by decide +kernel) rfl (c.def_ 24).1 (c.def_ 24).2 rfl rfl), ⟨⟨rfl, by decide +kernel, by decide +kernel, by decide +kernel, ⟨_, rfl, rfl⟩, by decide +kernel⟩, by decide +kernel, by decide +kernel, by decide +kernel⟩, fun _ _ => ⟨_, rfl, rfl⟩, rfl, rfl, fun _ _ _ _ _ _ _ _ _ _ => rfl⟩
  g_BadHeight := He.glo_ok KX G (c.fact 33)
  f_zip := He.free_ok KX G (c.fact 34)
  n_Row_pairs := He.noat_ok (c.fact 35)
  c_Row := He.cls_ok (c.fact 36)
  F_Row_init := c.fun_ 8
  mk_Row := He.mkr_ok (c.fact 37)
  g_Row := He.glo_ok KX G (c.fact 38)
  F_law_as_row := c.fun_ 9
  g__law_as_row := He.glo_ok KX G (c.fact 39)
  f_bool := He.free_ok KX G (c.fact 40)
  F_law_is := c.fun_ 10
  F_Row_eq := c.fun_ 11
  f_NotImplemented := He.free_ok KX G (c.fact 41)
  m_Row___eq__ := He.meth_ok (c.fact 42)
  eqc_Row := Rz.eqcB_ok (c.fact 43)
  g__law_is := He.glo_ok KX G (c.fact 44)
  F_Row_lt := c.fun_ 12
  m_Row___lt__ := He.meth_ok (c.fact 45)
  f_str := He.free_ok KX G (c.fact 46)
  F_Row_signs := c.fun_ 13
  p_Row_signs := Rz.propB_ok (c.fact 47)
  f_any := He.free_ok KX G (c.fact 48)
  F_Row_contains := c.fun_ 14
  m_Row___contains__ := He.meth_ok (c.fact 49)
  F_Row_heights := c.fun_ 15
  p_Row_heights := Rz.propB_ok (c.fact 50)
  f_iter := He.free_ok KX G (c.fact 51)
  F_Row_iter := c.fun_ 16
  F_Row_len := c.fun_ 17
  m_Row___iter__ := He.meth_ok (c.fact 52)
  m_Row___len__ := He.meth_ok (c.fact 53)
  f_tuple := He.free_ok KX G (c.fact 54)
  F_law_is_int := c.fun_ 18
  g__law_is_int := He.glo_ok KX G (c.fact 55)
  f_max := He.free_ok KX G (c.fact 56)
  F_Row_abs := c.fun_ 19
  m_Row___abs__ := He.meth_ok (c.fact 57)
  F_law_shows := c.fun_ 20
  g__law_shows := He.glo_ok KX G (c.fact 58)
  F_law := c.fun_ 21
  g_law := He.glo_ok KX G (c.fact 59)
/- law: level 6, top 25 of 26 -/
end Lw

namespace Lw
open PySem PySem.Spec PyProof.Rows L2
/-! heaps -/
/-- all but what stands at d is as it was -/
def Keep (d : Addr) (H H' : Hp) : Prop := ∀ b o, b ≠ d → H b = some o → H' b = some o
theorem Keep.refl {d : Addr} {H : Hp} : Keep d H H := fun _ _ _ h => h
theorem Keep.trans {d : Addr} {H H1 H2 : Hp} (a : Keep d H H1) (b : Keep d H1 H2) : Keep d H H2 := fun c o n h => b c o n (a c o n h)
theorem Keep.new {d p : Addr} {H : Hp} {o : HO} (h : H p = none) : Keep d H (upd H p o) := fun b u _ e => by rw [upd_ne (ne_of_none e h)]; exact e
theorem Keep.at_ {d : Addr} {H : Hp} {o : HO} : Keep d H (upd H d o) := fun b u n e => by rw [upd_ne n]; exact e
theorem Keep.free {d p : Addr} {H H' : Hp} (k : Keep d H H') (hp : p ≠ d) (h : H' p = none) : H p = none := by
  cases e : H p with
  | none => rfl
  | some o => rw [k p o hp e] at h; cases h
theorem Keep.same {d : Addr} {H H' : Hp} (s : Same H H') : Keep d H H' := fun b o _ e => s b o e
theorem Same.new {p : Addr} {H : Hp} {o : HO} (h : H p = none) : Same H (upd H p o) := fun b u e => by rw [upd_ne (ne_of_none e h)]; exact e
/-- the draws: a list of ints at d, at most 4000 -/
def DrL (H : Hp) (d : Addr) : Prop := ∃ ds : List Int, ds.length ≤ 4000 ∧ H d = some (.lst (ds.map V.int))
theorem DrL.same {H H' : Hp} {d : Addr} (h : DrL H d) (s : Same H H') : DrL H' d := let ⟨ds, a, b⟩ := h; ⟨ds, a, s _ _ b⟩
theorem small2 {n : Nat} (h : n ≤ 16777216) : n ≤ sizeLine := by rw [sizeLine_eq]; exact h
theorem nilData {K : Frg} {H : Hp} {p : Addr} (h : H p = some (.lst [])) : Dp K H (.ref p) (.list []) := .lst (SqL.of h) .nil
theorem intsData {K : Frg} {H : Hp} : ∀ ds : List Int, DpAll K H (ds.map V.int) (ds.map PyData.int)
  | [] => .nil
  | i :: r => .cons (.int i) (intsData r)
theorem canLay_ints : ∀ ds : List Int, PyData.canLayAll0 (ds.map PyData.int) = true
  | [] => by simp [PyData.canLayAll0]
  | i :: r => by simp [PyData.canLayAll0, PyData.canLay0, canLay_ints r]
theorem depth_ints : ∀ ds : List Int, PyData.depthAll (ds.map PyData.int) = 0
  | [] => by simp [PyData.depthAll]
  | i :: r => by simp [PyData.depthAll, PyData.depth, depth_ints r]
theorem shaped_ints (ds : List Int) : SeqAt.shaped (.list (ds.map PyData.int)) = true := by
  simp [SeqAt.shaped, PyData.canLay0, canLay_ints, PyData.depth, depth_ints]
theorem eqv_nil (ds : List Int) : PyData.eqv (.list (ds.map PyData.int)) (.list []) = ds.isEmpty := by
  cases ds <;> simp [PyData.eqv, PyData.eqvAll]
theorem rd_bm {K : Frg} {T : String} {r : V → List V → Hp → VK → Prop} {to : TE} {t : TA} {σ : L2.St} {H : Hp} {Q : VK} (h : to σ H fun x H1 => tyV K T x H1 ∧ t σ H1 fun xs H2 => r x xs H2 Q) : tBM K T r to t σ H Q := h
theorem tyL {K : Frg} {H : Hp} {a : Addr} {xs : List V} (h : H a = some (.lst xs)) : tyV K "list" (.ref a) H := Or.inl ⟨rfl, _, Or.inl (Or.inl h)⟩
theorem append_go {H : Hp} {l : Addr} {xs : List V} {y : V} {Q : VK} (h : H l = some (.lst xs)) (hz : xs.length < 16777216) (q : Q .non (upd H l (.lst (xs ++ [y])))) : rAppend (.ref l) [y] H Q := ⟨l, xs, y, rfl, rfl, h, by rw [sizeLine_eq]; exact hz, q⟩
theorem mapI_app (ds : List Int) (i : Int) : ds.map V.int ++ [V.int i] = (ds ++ [i]).map V.int := by simp
theorem getI {ns : List Int} {i : Nat} {x : V} (h : (ns.map V.int)[i]? = some x) : ∃ z, ns[i]? = some z ∧ x = .int z := by
  rw [List.getElem?_map] at h
  cases e : ns[i]? with
  | none => rw [e] at h; cases h
  | some z => rw [e] at h; exact ⟨z, rfl, (Option.some.inj h).symm⟩
theorem rd_for {wi : TI} {g : TG} {tb : TS} {D : Ends} {σ : L2.St} {H : Hp} (h : wi σ H fun J H1 => ∃ W : Nat → Nat → L2.St → Hp → Prop, (∃ m, W 0 m σ H1) ∧ ∀ i m σ H, W i m σ H →
  (J.stop i H ∧ D.nx σ H) ∨ (J.go i H ∧ ∃ N : L2.St → Hp → Prop, (∀ σ' H', N σ' H' → ∃ m', m' < m ∧ W (i + 1) m' σ' H') ∧ ∀ x H', J.yld i H x H' → g x σ H' fun σ2 H2 => tb { D with nx := N, ct := N, bk := D.nx } σ2 H2)) : tFor wi g tb D σ H := h
theorem rd_rng1 {ta : TA} {σ : L2.St} {H : Hp} {R : It → Hp → Prop} (h : ta σ H fun vs H1 => ∃ j : Int, vs = [.int j] ∧ -(2 ^ 62) ≤ j ∧ j < 2 ^ 62 ∧ R (Itr 0 j.toNat) H1) : iRng1 ta σ H R := h
theorem rd_iList {K : Frg} {tl : TE} {σ : L2.St} {H : Hp} {R : It → Hp → Prop} (h : tl σ H fun x H1 => ∃ a, x = .ref a ∧ (∃ xs, SqL K H1 a xs) ∧ R (Itl K a) H1) : iList K tl σ H R := h
theorem mulS {i j : Int} (h1 : -1000000 ≤ j) (h2 : j ≤ 1000000) : CMul i j := .inr ⟨by omega, by omega⟩
theorem mulS' {i j : Int} (h1 : -1000000 ≤ i) (h2 : i ≤ 1000000) : CMul i j := .inl ⟨by omega, by omega⟩
theorem rd_enumS {ta : TA} {σ : L2.St} {H : Hp} {R : It → Hp → Prop} (h : ta σ H fun vs H1 => ∃ x, vs = [.str x] ∧ R (Ites x) H1) : iEnumS ta σ H R := h
theorem rd_gtup {K : Frg} {n : Nat} {t : TGs} {a : Addr} {xs : List V} {σ : L2.St} {H : Hp} {Q : L2.St → Hp → Prop} (h : H a = some (.tup xs)) (hl : xs.length = n) (q : t xs σ H Q) : gTup K n t (.ref a) σ H Q := ⟨a, xs, rfl, SqT.of h, hl, q⟩
theorem rd_gcons {t : TG} {u : TGs} {v : V} {r : List V} {σ : L2.St} {H : Hp} {Q : L2.St → Hp → Prop} (h : t v σ H fun σ' H' => u r σ' H' Q) : gCons t u (v :: r) σ H Q := ⟨v, r, rfl, h⟩
theorem rd_gnil {σ : L2.St} {H : Hp} {Q : L2.St → Hp → Prop} (h : Q σ H) : gNil [] σ H Q := ⟨rfl, h⟩
theorem rd_sfld {K : Frg} {ta tv : TE} {f : Str} {D : Ends} {σ : L2.St} {H : Hp} (h : tv σ H fun y H1 => ta σ H1 fun x H2 => ∃ a C dx fs, x = .ref a ∧ H2 a = some (.ins C dx fs) ∧ Cls K C ∧ NoAttr K C f ∧ fs.length < 1000 ∧ D.nx σ (upd H2 a (.ins C dx (putF f y fs)))) : sFld K ta tv f D σ H := h
theorem rd_m1 {r : V → List V → Hp → VK → Prop} {to te : TE} {σ : L2.St} {H : Hp} {Q : VK} (h : to σ H fun x H1 => (∃ a, x = .str a) ∧ te σ H1 fun y H2 => r x [y] H2 Q) : tM1 r to te σ H Q := h
theorem rd_lc {wi : TI} {g : TG} {tt : TT} {te : TE} {vs : List Nat} {σ : L2.St} {H : Hp} {Q : VK} (h : wi σ H fun J H1 => ∀ D, H1 D = none → ∃ W : Nat → Nat → Hp → Prop, (∃ m, W 0 m (upd H1 D (.lst []))) ∧ ∀ i m H, W i m H →
  (J.stop i H ∧ Q (.ref D) H) ∨ (J.go i H ∧ ∃ Nx : Hp → Prop, (∀ H', Nx H' → ∃ m', m' < m ∧ W (i + 1) m' H') ∧ ∀ x H', J.yld i H x H' → g x (wipe σ vs) H' fun σ2 H2 => wipe σ2 vs = wipe σ vs ∧ tt σ2 H2 fun b H3 =>
    if b = true then te σ2 H3 fun y H4 => ∃ acc, H4 D = some (.lst acc) ∧ acc.length < sizeLine ∧ Nx (upd H4 D (.lst (acc ++ [y]))) else Nx H3)) : tLc wi g tt te vs σ H Q := h
theorem rd_make {C : Addr} {sp : Sp} {dvs : List V} {EE : L2.St → XK} {tl : TA} {σ : L2.St} {H : Hp} {Q : VK} (h : tl σ H fun vs H1 => ∀ y dx, H1 y = none → H1 dx = none → dx ≠ y → sp (.ref y :: (vs ++ dvs)) (upd (upd H1 dx (.own y)) y (.ins C dx [])) (fun v H2 => v = .non ∧ Q (.ref y) H2) (EE σ)) :
    tMakeS C sp dvs EE tl σ H Q := h
theorem rd_fld {K : Frg} {ta : TE} {f : Str} {σ : L2.St} {H : Hp} {Q : VK} (h : ta σ H fun x H1 => ∃ a C dx fs v, x = .ref a ∧ H1 a = some (.ins C dx fs) ∧ Cls K C ∧ NoAttr K C f ∧ fs.lookup f = some v ∧ Q v H1) : tFld K ta f σ H Q := h
theorem rd_strO {C : Addr} {sp : Sp} {EE : L2.St → XK} {tl : TA} {σ : L2.St} {H : Hp} {Q : VK} (h : tl σ H fun vs H1 => ∃ a dx fs, vs = [.ref a] ∧ H1 a = some (.ins C dx fs) ∧ sp [.ref a] H1 (fun v H' => ∃ z, v = .str z ∧ Q (.str z) H') (EE σ)) : tStrO C sp EE tl σ H Q := h
theorem rd_xf {a : Addr} {cls : Value} {d : Option Addr} {C : Addr} {f : Str} {te : TE} {σ : L2.St} {H : Hp} {Q : VK} (h : te σ H fun x H1 => x = .ref a ∧ cls = .ref C ∧ ∃ (dd : Addr) (fs : List (Str × V)) (v : V), d = some dd ∧ H1 dd = some (.xd fs) ∧ fs.lookup f = some v ∧ Q v H1) : tXf a cls d C f te σ H Q := h
theorem rd_fmt {te : TE} {σ : L2.St} {H : Hp} {Q : VK} (h : te σ H fun x H1 => (∃ y : Str, x = .str y ∧ y.length ≤ sizeLine ∧ Q (.str y) H1) ∨ ∃ i : Int, x = .int i ∧ i.natAbs.log2 < 1920 ∧ Q (.str (toString i)) H1) : tFmt te σ H Q := h
theorem rd_prop {C : Addr} {sp : Sp} {dvs : List V} {E : XK} {ta : TE} {σ : L2.St} {H : Hp} {Q : VK} (h : ta σ H fun x H1 => ∃ a dx fs, x = .ref a ∧ H1 a = some (.ins C dx fs) ∧ sp (.ref a :: dvs) H1 Q E) : tProp C sp dvs E ta σ H Q := h
theorem rd_meth {C : Addr} {m : Str} {sp : Sp} {dvs : List V} {EE : L2.St → XK} {ta : TE} {tl : TA} {σ : L2.St} {H : Hp} {Q : VK} (h : ta σ H fun y H1 => ∃ a dx fs, y = .ref a ∧ H1 a = some (.ins C dx fs) ∧ fs.lookup m = none ∧ tl σ H1 fun vs H2 => sp (y :: (vs ++ dvs)) H2 Q (EE σ)) : tMethZ C m sp dvs EE ta tl σ H Q := h
theorem rd_tjs {t : TE} {ts : List TE} {acc : Str} {σ : L2.St} {H : Hp} {R : Str → Hp → Prop} (h : t σ H fun x H1 => ∃ y : Str, x = .str y ∧ (acc ++ y).length ≤ sizeLine ∧ tJs ts (acc ++ y) σ H1 R) : tJs (t :: ts) acc σ H R := h
theorem rd_tjs0 {acc : Str} {σ : L2.St} {H : Hp} {R : Str → Hp → Prop} (h : R acc H) : tJs [] acc σ H R := h
theorem rd_iteB {b : Bool} {A B : Prop} (e : b = true) (h : A) : if b = true then A else B := by rw [e]; exact h
theorem rd_iteC {b : Bool} {A B : Prop} (e : b = false) (h : B) : if b = true then A else B := by rw [e]; exact h
theorem does_some {c : Value} {i : Nat} {ts : TSu} {cls : Value} {d : Option Addr} {D : Ends} {σ : L2.St} {H : Hp} {a : Addr} (h : ts a cls d (D.drop i) (σ.set i (some (.ref a))) H) : (Clause.mk c (some i) ts).does cls d D σ H a := h
theorem does_none {c : Value} {ts : TSu} {cls : Value} {d : Option Addr} {D : Ends} {σ : L2.St} {H : Hp} {a : Addr} (h : ts a cls d D σ H) : (Clause.mk c none ts).does cls d D σ H a := h
/-! texts as lists of codes -/
def tx (l : List Nat) : Str := ⟨l.toArray⟩
theorem tx_toList (l : List Nat) : (tx l).cps.toList = l := by simp [tx]
theorem tx_self (z : Str) : tx z.cps.toList = z := by obtain ⟨c⟩ := z; simp [tx]
theorem tx_len (l : List Nat) : (tx l).length = l.length := by simp [tx, Str.length]
theorem tx_inj {l m : List Nat} : tx l = tx m ↔ l = m := ⟨fun h => by have := congrArg (fun z : Str => z.cps.toList) h; simpa [tx] using this, fun h => by rw [h]⟩
theorem tx_app (l m : List Nat) : tx l ++ tx m = tx (l ++ m) := by
  show (⟨l.toArray ++ m.toArray⟩ : Str) = _
  simp [tx]
theorem joinL_nil : ∀ ps : List (List Nat), TL.joinL [] ps = ps.flatten
  | [] => rfl
  | [p] => by simp [TL.joinL]
  | p :: q :: r => by
    show p ++ ([] ++ TL.joinL [] (q :: r)) = _
    rw [joinL_nil (q :: r)]
    simp
theorem flat_one : ∀ cs : List Nat, (cs.map fun c => [c]).flatten = cs
  | [] => rfl
  | c :: r => by rw [List.map_cons, List.flatten_cons, flat_one r]; rfl
theorem join_tx (ps : List (List Nat)) : Txt.join (Str.ofString "") (ps.map tx) = tx ps.flatten := by
  rw [TL.join_eq]
  have h := TL.tl_join (Str.ofString "") (ps.map tx)
  have e : (ps.map tx).map TL.tl = ps := by
    rw [List.map_map]
    conv => rhs; rw [← List.map_id ps]
    apply List.map_congr_left
    intro l _
    exact tx_toList l
  rw [e, show TL.tl (Str.ofString "") = [] from rfl, joinL_nil] at h
  rw [← h]
  exact (tx_self _).symm
theorem sIx_none (n d : Nat) : HT.sIx n d none = d := rfl
theorem sIx_nat (n d k : Nat) (h : k ≤ n) : HT.sIx n d (some (k : Int)) = k := by
  rw [HT.sIx_nat]
  omega
theorem cut_to (l : List Nat) (k : Nat) (h : k ≤ l.length) : cutS (tx l) none (some (k : Int)) = tx (l.take k) := by
  unfold cutS
  rw [tx_toList, tx_len, sIx_none, sIx_nat _ _ _ h]
  rfl
theorem cut_from (l : List Nat) (k : Nat) (h : k ≤ l.length) : cutS (tx l) (some (k : Int)) none = tx (l.drop k) := by
  unfold cutS
  rw [tx_toList, tx_len, sIx_none, sIx_nat _ _ _ h]
  rw [List.take_of_length_le (by rw [List.length_drop]; exact Nat.le_refl _)]
  rfl
/-- the 26 letters -/
def letters : List Nat := (Str.ofString "abcdefghijklmnopqrstuvwxyz").cps.toList
/-- the first place that is no letter; -1 if there is none -/
def fo : List Nat → Int
  | [] => -1
  | c :: r => if c ∈ letters then (if fo r < 0 then -1 else fo r + 1) else 0
/-- the first i are letters, and the next is none -/
theorem fo_at : ∀ (l : List Nat) (i : Nat) (c : Nat), (∀ (j x : Nat), j < i → l[j]? = some x → x ∈ letters) → l[i]? = some c → c ∉ letters → fo l = i
  | [], i, c, _, h, _ => by simp at h
  | x :: r, 0, c, _, h, hc => by
    have e : x = c := Option.some.inj h
    unfold fo
    rw [e, if_neg hc]
    rfl
  | x :: r, i + 1, c, hp, h, hc => by
    have hx : x ∈ letters := hp 0 x (Nat.succ_pos _) rfl
    have := fo_at r i c (fun j y hj e => hp (j + 1) y (Nat.succ_lt_succ hj) e) h hc
    unfold fo
    rw [if_pos hx, this, if_neg (by omega)]
    omega
theorem fo_none : ∀ (l : List Nat), (∀ (j x : Nat), l[j]? = some x → x ∈ letters) → fo l = -1
  | [], _ => rfl
  | x :: r, hp => by
    have hx : x ∈ letters := hp 0 x rfl
    have := fo_none r (fun j y e => hp (j + 1) y e)
    unfold fo
    rw [if_pos hx, this]
    rfl
theorem tx_get (l : List Nat) (i : Nat) : (tx l).cps[i]? = l[i]? := by simp [tx]
theorem rd_iteG {b : Bool} {A B : Prop} (h1 : b = true → A) (h2 : b = false → B) : if b = true then A else B := by cases b with | true => exact h1 rfl | false => exact h2 rfl
local macro_rules | `(tactic| walk_at "rd") => `(tactic| first
  | (with_reducible refine rd_seq ?_) | (with_reducible refine rd_asg ?_) | (with_reducible refine rd_name ?_) | (with_reducible refine rd_drop ?_) | (with_reducible refine rd_ret ?_) | (with_reducible refine rd_retN ?_) | (with_reducible refine rd_next ?_)
  | (with_reducible refine rd_ifS ?_)
  | ((with_reducible show tVar _ _ _ _); refine rd_var rfl ?_)
  | (with_reducible refine rd_c ?_) | (with_reducible refine rd_op ?_) | (with_reducible refine rd_un ?_) | (with_reducible refine rd_neg ?_) | (with_reducible refine rd_cb ?_) | (with_reducible refine rd_nil ?_) | (with_reducible refine rd_cons ?_)
  | (with_reducible refine rd_test ?_) | (with_reducible refine rd_tb ?_) | ((with_reducible show ∃ k, V.bl _ = V.bl k ∧ _); refine ⟨_, rfl, ?_⟩) | (with_reducible refine rd_and ?_) | (with_reducible refine rd_or ?_) | (with_reducible refine rd_not ?_)
  | (with_reducible refine rd_andV ?_) | (with_reducible refine rd_orV ?_) | (with_reducible refine rd_notV ?_) | (with_reducible refine rd_ifE ?_)
  | (with_reducible refine rd_tup ?_) | (with_reducible refine rd_lst ?_) | (with_reducible refine rd_call ?_) | (with_reducible refine rd_joined ?_)
  | (with_reducible refine rd_raise ?_) | (with_reducible refine rd_mkx ?_) | (with_reducible refine rd_mkx0 ?_) | (with_reducible refine rd_try ?_)
  | (with_reducible refine rd_sl ?_) | (with_reducible refine rd_nopart ?_) | (with_reducible refine rd_part ?_) | ((with_reducible show ∃ k, V.int _ = V.int k ∧ _); refine ⟨_, rfl, ?_⟩) | (with_reducible refine rd_chain ?_) | (with_reducible refine rd_yes ?_)
  | (with_reducible refine rd_iteT ?_) | (with_reducible refine rd_iteF ?_)
  | (with_reducible refine addA_int ?_) | (with_reducible refine i0_go ?_) | (with_reducible refine ltA_int ?_) | (with_reducible refine eqA_int ?_) | (with_reducible refine neA_int ?_) | (with_reducible refine eqA_str ?_) | (with_reducible refine neA_str ?_)
  | ((with_reducible refine mulA_int ?c ?_); case c => first | exact mulS (by omega) (by omega) | exact mulS' (by omega) (by omega))
  | ((with_reducible refine i_go ?c ?_); case c => first | ((with_reducible show (0 : Int) < _); omega) | exact ⟨by decide, by decide⟩ | exact ⟨by decide, by decide, by decide⟩)
  | (with_reducible refine intA_int ?_) | (with_reducible refine rd_bm ?_) | (with_reducible refine rd_for ?_) | (with_reducible refine rd_rng1 ?_) | (with_reducible refine rd_iList ?_) | (with_reducible refine rd_enumS ?_) | (with_reducible refine rd_gcons ?_) | (with_reducible refine rd_gnil ?_) | (with_reducible refine rd_sfld ?_) | (with_reducible refine rd_m1 ?_) | (with_reducible refine rd_lc ?_) | (with_reducible refine rd_make ?_) | (with_reducible refine rd_fld ?_)
  | (with_reducible refine rd_strO ?_) | (with_reducible refine rd_xf ?_) | (with_reducible refine rd_fmt ?_) | (with_reducible refine rd_prop ?_) | (with_reducible refine rd_meth ?_) | (with_reducible refine does_some ?_) | (with_reducible refine does_none ?_) | ((with_reducible show List.length _ ≤ sizeLine ∧ _); refine ⟨small2 (by simp), ?_⟩)
  | (with_reducible refine rd_tjs ?_) | (with_reducible refine rd_tjs0 ?_))
local macro_rules | `(tactic| walk_at "go") => `(tactic| repeat walk_at "rd")
local macro_rules | `(tactic| walk_at "all") => `(tactic| repeat' (first
  | walk_at "rd"
  | ((with_reducible show if _ = true then _ else _); first | refine rd_iteB rfl ?_ | refine rd_iteC rfl ?_ | refine rd_ite (fun _ => ?_) (fun _ => ?_) | refine rd_iteN (fun _ => ?_) (fun _ => ?_) | refine rd_iteG (fun _ => ?_) (fun _ => ?_))))
variable {K : Frg}
theorem rd_iStr {te : TE} {σ : L2.St} {H : Hp} {R : It → Hp → Prop} (h : te σ H fun v H1 => ∃ x, v = .str x ∧ R (Its x) H1) : iStr te σ H R := h
theorem rd_zipS {K : Frg} {ta : TA} {σ : L2.St} {H : Hp} {Q : VK} (h : ta σ H fun vs H1 => rZipS K vs H1 Q) : tZipS K ta σ H Q := h
theorem rd_lenO {C : Addr} {sp : Sp} {E : L2.St → XK} {t : TA} {σ : L2.St} {H : Hp} {Q : VK} (h : t σ H fun vs H1 => rLenO C sp E σ vs H1 Q) : tLenO C sp E t σ H Q := h
theorem rd_absO {C : Addr} {sp : Sp} {E : L2.St → XK} {t : TA} {σ : L2.St} {H : Hp} {Q : VK} (h : t σ H fun vs H1 => ∃ a dx fs, vs = [.ref a] ∧ H1 a = some (.ins C dx fs) ∧ sp [.ref a] H1 Q (E σ)) : tAbsO C sp E t σ H Q := h
theorem rd_listO {C : Addr} {spI spL : Sp} {E : L2.St → XK} {t : TA} {σ : L2.St} {H : Hp} {Q : VK} (h : t σ H fun vs H1 => rListO C spI spL E σ vs H1 Q) : tListO C spI spL E t σ H Q := h
theorem rd_gsub {to ti : TE} {r : V → V → V → Hp → (Hp → Prop) → Prop} {σ : L2.St} {H : Hp} {v : V} {Q : L2.St → Hp → Prop} (h : to σ H fun x H1 => ti σ H1 fun i H2 => r x i v H2 fun H3 => Q σ H3) : gSub to ti r v σ H Q := h
local macro_rules | `(tactic| walk_at "rd") => `(tactic| first
  | (with_reducible refine rd_iStr ?_) | (with_reducible refine rd_zipS ?_) | (with_reducible refine rd_lenO ?_) | (with_reducible refine rd_absO ?_) | (with_reducible refine rd_listO ?_) | (with_reducible refine rd_gsub ?_))
/-! the draws -/
theorem pick_ok {d : Addr} {m : Int} {H : Hp} {Q : VK} {E : XK} (hm : 0 < m) (hd : DrL H d) (h : ∀ r H', 0 ≤ r → r < m → Keep d H H' → DrL H' d → Q (.int r) H') : sp_law_pick K [.ref d, .int m] H Q E := by
  obtain ⟨ds, hl, hd⟩ := hd
  refine ⟨rfl, ?_⟩
  unfold t_law_pick
  walk_at "go"
  intro p hp
  have hdp : (upd H p (.lst [])) d = some (.lst (ds.map V.int)) := by rw [upd_ne (ne_of_none hd hp)]; exact hd
  refine eqA_data (.lst (SqL.of hdp) (intsData ds)) (nilData upd_same) (shaped_ints ds) (shaped_ints []) (eqv_nil ds) ⟨_, rfl, ?_⟩
  cases ds with
  | nil =>
    refine rd_iteT ?_
    walk_at "go"
    exact h 0 _ (by omega) hm (Keep.new hp) ⟨[], Nat.zero_le _, hdp⟩
  | cons i r =>
    refine rd_iteF ?_
    walk_at "go"
    refine ⟨tyL hdp, ?_⟩
    walk_at "go"
    refine ⟨d, _, 0, 0, .int i, rfl, rfl, hdp, by decide, by decide, ?_, rfl, ?_⟩
    · show seqIndex? 0 (List.length ((i :: r).map V.int)) = some 0
      simp [seqIndex?]
    · walk_at "go"
      refine h _ _ (Int.emod_nonneg _ (by omega)) (Int.emod_lt_of_pos _ hm) ((Keep.new hp).trans Keep.at_) ⟨r, Nat.le_of_succ_le hl, ?_⟩
      rw [upd_same]
      rfl

theorem pool_ok {a : Addr} {ns : List Int} {H : Hp} {Q : VK} {E : XK} (hS : SqL K H a (ns.map V.int)) (hn : ns.length ≤ 63) (h : ∀ d H', Same H H' → H d = none → DrL H' d → Q (.ref d) H') : sp_law_pool K [.ref a] H Q E := by
  refine ⟨rfl, ?_⟩
  unfold t_law_pool
  walk_at "go"
  intro d hd
  walk_at "go"
  refine ⟨a, rfl, ⟨_, (Same.new hd).seq hS⟩, ?_⟩
  refine for_list (K := K) (a := a) (xs := ns.map V.int) (fun i σ H2 => ∃ (seed : Int) (v3 v4 v5 v6 : Option V) (ds : List Int), σ = [some (.ref a), some (.ref d), some (.int seed), v3, v4, v5, v6] ∧ 0 ≤ seed ∧ seed < 1009 ∧ ds.length ≤ 60 * i ∧
    Same H H2 ∧ H2 d = some (.lst (ds.map V.int))) ⟨0, none, none, none, none, [], rfl, by omega, by omega, Nat.le_refl _, Same.new hd, upd_same⟩ (fun i σ H2 _ ⟨_, _, _, _, _, _, _, _, _, _, s2, _⟩ => s2.seq hS) ?_ ?_
  · rintro i x σ H2 hi ⟨seed, v3, v4, v5, v6, ds, rfl, h0, h1, hl, s2, e2⟩
    obtain ⟨z, hz, rfl⟩ := getI hi
    have hi63 : i < 63 := by have := (List.getElem?_eq_some_iff.mp hz).1; omega
    have free : ∀ {H3 : Hp}, H3 = upd H2 d (.lst (ds.map V.int)) → H3 = H2 := fun {H3} e => by
      rw [e]; funext b; by_cases hb : b = d
      · rw [hb, upd_same, e2]
      · rw [upd_ne hb]
    walk_at "go"
    refine ⟨z, rfl, ?_⟩
    walk_at "go"
    have n0 := Int.emod_nonneg (seed * 31 + (if z < 0 then -z else z)) (by decide : (1009 : Int) ≠ 0)
    have n1 := Int.emod_lt_of_pos (seed * 31 + (if z < 0 then -z else z)) (by decide : (0 : Int) < 1009)
    generalize (seed * 31 + (if z < 0 then -z else z)) % 1009 = seed' at n0 n1 ⊢
    generalize (if z < 0 then -z else z) = rest
    walk_at "go"
    refine rd_ite (fun hlt => ?_) (fun hge => ?_)
    · walk_at "go"
      refine ⟨tyL e2, ?_⟩
      walk_at "go"
      refine append_go e2 (by rw [List.length_map]; omega) ?_
      refine ⟨seed', _, _, _, _, ds ++ [rest], rfl, n0, n1, by rw [List.length_append, List.length_singleton]; omega, fun b o e => ?_, by rw [upd_same, mapI_app]⟩
      rw [upd_ne (ne_of_none e hd)]
      exact s2 b o e
    · walk_at "go"
      refine ⟨60, rfl, by decide, by decide, ?_⟩
      refine forR (n := 60) (fun k σ H3 => ∃ (v4 v5 : Option V) (r : Int) (es : List Int), σ = [some (.ref a), some (.ref d), some (.int seed'), some (.int z), v4, some (.int r), v6] ∧ es.length ≤ 60 * i + k ∧ Same H H3 ∧ H3 d = some (.lst (es.map V.int)))
        ⟨_, none, rest, ds, rfl, hl, s2, e2⟩ ?_ ?_
      · rintro k σ H3 hk ⟨v4', v5', r, es, rfl, hl3, s3, e3⟩
        walk_at "go"
        refine rd_ite (fun hlt => ?_) (fun hge => ?_)
        · walk_at "go"
          refine ⟨tyL e3, ?_⟩
          walk_at "go"
          refine append_go e3 (by rw [List.length_map]; omega) ?_
          walk_at "go"
          refine ⟨_, none, _, es ++ [r % 1000], rfl, by rw [List.length_append, List.length_singleton]; omega, fun b o e => ?_, by rw [upd_same, mapI_app]⟩
          rw [upd_ne (ne_of_none e hd)]
          exact s3 b o e
        · walk_at "go"
          exact ⟨_, none, r, es, rfl, by omega, s3, e3⟩
      · rintro σ H3 ⟨v4', v5', r, es, rfl, hl3, s3, e3⟩
        refine ⟨seed', _, _, _, _, es, rfl, n0, n1, ?_, s3, e3⟩
        have : (60 : Int).toNat = 60 := rfl
        omega
  · rintro σ H2 ⟨seed, v3, v4, v5, v6, ds, rfl, h0, h1, hl, s2, e2⟩
    rw [List.length_map] at hl
    walk_at "go"
    refine ⟨90, rfl, by decide, by decide, ?_⟩
    refine forR (n := 90) (fun k σ H3 => ∃ (v4 v6 : Option V) (es : List Int), σ = [some (.ref a), some (.ref d), some (.int seed), v3, v4, v5, v6] ∧ es.length ≤ 60 * ns.length + k ∧ Same H H3 ∧ H3 d = some (.lst (es.map V.int)))
      ⟨_, _, ds, rfl, hl, s2, e2⟩ ?_ ?_
    · rintro k σ H3 hk ⟨v4', v6', es, rfl, hl3, s3, e3⟩
      walk_at "go"
      generalize hw : ((seed + 1) * ((3 * (k : Int) * k + 5 * k) / 2 + 7)) % 1009 = w'
      have w0 : 0 ≤ w' := by rw [← hw]; exact Int.emod_nonneg _ (by decide)
      have w1 : w' < 1009 := by rw [← hw]; exact Int.emod_lt_of_pos _ (by decide)
      walk_at "go"
      refine ⟨tyL e3, ?_⟩
      walk_at "go"
      refine append_go e3 (by rw [List.length_map]; omega) ?_
      refine ⟨_, _, es ++ [(w' * w' + (k : Int)) % 1013], rfl, by rw [List.length_append, List.length_singleton]; omega, fun b o e => ?_, by rw [upd_same, mapI_app]⟩
      rw [upd_ne (ne_of_none e hd)]
      exact s3 b o e
    · rintro σ H3 ⟨v4', v6', es, rfl, hl3, s3, e3⟩
      walk_at "go"
      refine h d H3 s3 hd ⟨es, ?_, e3⟩
      have : (90 : Int).toNat = 90 := rfl
      omega
/-- check_text -/
theorem check_ok {l : List Nat} {H : Hp} {Q : VK} {E : XK} (h : fo l = -1 → ∀ H', Same H H' → Q .non H')
    (hE : 0 ≤ fo l → ∀ H' d, Same H H' → H' d = none → E (.ref (He.ga K "BadSign")) (some d) (upd H' d (.xd [("at", .int (fo l))]))) : sp_check_text K [.str (tx l)] H Q E := by
  refine ⟨rfl, ?_⟩
  unfold t_check_text
  walk_at "go"
  refine ⟨_, rfl, for_it walk_enumS (fun i σ H2 => Same H H2 ∧ (∃ v v', σ = [some (.str (tx l)), v, v']) ∧ ∀ (j x : Nat), j < i → l[j]? = some x → x ∈ letters) ⟨Same.refl _, ⟨none, none, rfl⟩, fun j x hj _ => absurd hj (Nat.not_lt_zero _)⟩ (fun _ _ _ _ _ => trivial) ?_ ?_⟩
  · rintro i x σ H2 H3 hi ⟨s2, ⟨v, v', rfl⟩, hp⟩ ⟨T, c, rfl, hT, hc, rfl⟩
    rw [tx_get] at hc
    refine rd_gtup upd_same rfl ?_
    walk_at "go"
    refine notInA_sign ?_
    walk_at "go"
    have s3 : Same H (upd H2 T (.tup [.int (i : Nat), .str ⟨#[c]⟩])) := s2.trans (Same.new hT)
    refine rd_iteN (fun hc' => ?_) (fun hc' => ?_)
    · have e := fo_at l i c hp hc hc'
      rw [e] at hE
      walk_at "go"
      exact ⟨_, rfl, fun d hd => hE (by omega) _ d s3 hd⟩
    · walk_at "go"
      refine ⟨s3, ⟨_, _, rfl⟩, fun j x hj e => ?_⟩
      by_cases hji : j = i
      · subst hji
        rw [hc] at e
        rw [← Option.some.inj e]
        exact hc'
      · exact hp j x (by omega) e
  · rintro σ H2 ⟨s2, _, hp⟩
    refine h (fo_none l fun j x e => hp j x ?_ e) H2 s2
    have := (List.getElem?_eq_some_iff.mp e).1
    show j < (tx l).cps.size
    simpa [tx] using this
/-! Row -/
/-- the pairs that stand in the list at D -/
def Prs (H : Hp) (D : Addr) (ps : List (Nat × Int)) : Prop := ∃ as : List Addr, H D = some (.lst (as.map V.ref)) ∧ as.length = ps.length ∧ ∀ (j : Nat) (a : Addr) (p : Nat × Int), as[j]? = some a → ps[j]? = some p → H a = some (.tup [.str (tx [p.1]), .int p.2])
theorem Prs.same {H H' : Hp} {D : Addr} {ps : List (Nat × Int)} (h : Prs H D ps) (s : Same H H') : Prs H' D ps := let ⟨as, a, b, c⟩ := h; ⟨as, s _ _ a, b, fun j x p e f => s _ _ (c j x p e f)⟩
theorem Prs.keep {H H' : Hp} {D e : Addr} {xs : List V} {ps : List (Nat × Int)} (h : Prs H D ps) (k : Keep e H H') (n : D ≠ e) (he : H e = some (.lst xs)) : Prs H' D ps := by
  obtain ⟨as, a, b, c⟩ := h
  refine ⟨as, k _ _ n a, b, fun j x p e1 e2 => k _ _ (fun q => ?_) (c j x p e1 e2)⟩
  have := c j x p e1 e2
  rw [q, he] at this
  cases this
def RowAt (K : Frg) (H : Hp) (y D : Addr) (ps : List (Nat × Int)) : Prop := (∃ dx, H y = some (.ins (He.ga K "Row") dx [("pairs", .ref D)])) ∧ Prs H D ps
theorem RowAt.same {H H' : Hp} {y D : Addr} {ps : List (Nat × Int)} (h : RowAt K H y D ps) (s : Same H H') : RowAt K H' y D ps := let ⟨⟨dx, a⟩, b⟩ := h; ⟨⟨dx, s _ _ a⟩, b.same s⟩
theorem RowAt.keep {H H' : Hp} {y D e : Addr} {xs : List V} {ps : List (Nat × Int)} (h : RowAt K H y D ps) (k : Keep e H H') (n : D ≠ e) (he : H e = some (.lst xs)) : RowAt K H' y D ps := by
  obtain ⟨⟨dx, a⟩, b⟩ := h
  exact ⟨⟨dx, k _ _ (fun q => by rw [q, he] at a; cases a) a⟩, b.keep k n he⟩
theorem look_pairs (v : V) : List.lookup ("pairs" : Str) [(("pairs" : Str), v)] = some v := by simp [List.lookup]
/-- the first height out of range -/
def badH (hs : List Int) : Option Int := hs.find? fun h => !decide (0 ≤ h ∧ h ≤ 9)
theorem badH_at : ∀ (hs : List Int) (i : Nat) (z : Int), (∀ (j : Nat) (x : Int), j < i → hs[j]? = some x → 0 ≤ x ∧ x ≤ 9) → hs[i]? = some z → ¬ (0 ≤ z ∧ z ≤ 9) → badH hs = some z
  | [], i, z, _, h, _ => by simp at h
  | x :: r, 0, z, _, h, hz => by
    have e : x = z := Option.some.inj h
    unfold badH
    rw [List.find?_cons_of_pos (by rw [e, decide_eq_false hz]; rfl), e]
  | x :: r, i + 1, z, hp, h, hz => by
    have hx := hp 0 x (Nat.succ_pos _) rfl
    have := badH_at r i z (fun j y hj e => hp (j + 1) y (Nat.succ_lt_succ hj) e) h hz
    unfold badH at this ⊢
    rw [List.find?_cons_of_neg (by rw [decide_eq_true hx]; decide), this]
theorem badH_none : ∀ (hs : List Int), (∀ (j : Nat) (x : Int), hs[j]? = some x → 0 ≤ x ∧ x ≤ 9) → badH hs = none
  | [], _ => rfl
  | x :: r, hp => by
    have hx := hp 0 x rfl
    have := badH_none r fun j y e => hp (j + 1) y e
    unfold badH at this ⊢
    rw [List.find?_cons_of_neg (by rw [decide_eq_true hx]; decide), this]
theorem as_string_ok {z : Str} {H : Hp} {Q : VK} {E : XK} (h : Q (.str z) H) : sp_as_string K [.str z] H Q E := by
  refine ⟨rfl, ?_⟩
  unfold t_as_string
  walk_at "go"
  refine isi_go (.ty _) (.base (.str _)) (kit_ty (r := false) (by decide +kernel)) ?_
  walk_at "all"
  exact h
theorem rep0 (n : Nat) : (List.replicate n [V.int 0]).flatten = (List.replicate n (0 : Int)).map V.int := by
  induction n with
  | zero => rfl
  | succ n ih => rw [List.replicate_succ, List.flatten_cons, ih, List.replicate_succ, List.map_cons]; rfl
theorem row_init_ok {P : Program} {mg : Str → Option Value} (T : Txt P K mg) {y dx : Addr} {l : List Nat} {hs : List Int} {hv : V} {H : Hp} {Q : VK} {E : XK} (hl : l.length ≤ 10000) (hh : hs.length ≤ 10000) (hy : H y = some (.ins (He.ga K "Row") dx []))
    (arg : (∃ b, hv = .ref b ∧ H b = some (.lst (hs.map V.int))) ∨ (hv = .non ∧ hs = List.replicate l.length 0))
    (h : fo l = -1 → hs.length = l.length → badH hs = none → ∀ D H', Keep y H H' → H D = none → H' y = some (.ins (He.ga K "Row") dx [("pairs", .ref D)]) → Prs H' D (l.zip hs) → Q .non H')
    (hE1 : 0 ≤ fo l → ∀ H' d, Same H H' → H' d = none → E (.ref (He.ga K "BadSign")) (some d) (upd H' d (.xd [("at", .int (fo l))])))
    (hE2 : fo l = -1 → hs.length ≠ l.length → ∀ H', Same H H' → E (.ref (He.ga K "Uneven")) none H')
    (hE3 : fo l = -1 → hs.length = l.length → ∀ z, badH hs = some z → ∀ H' d, Same H H' → H' d = none → E (.ref (He.ga K "BadHeight")) (some d) (upd H' d (.xd [("height", .int z)]))) :
    sp_Row_init K [.ref y, .str (tx l), hv] H Q E := by
  refine ⟨rfl, ?_⟩
  unfold t_Row_init
  walk_at "go"
  refine as_string_ok ?_
  walk_at "go"
  refine check_ok (fun e1 H1 s1 => ?_) hE1
  walk_at "go"
  refine ⟨rfl, ?_⟩
  rcases arg with ⟨b, rfl, hb0⟩ | ⟨rfl, er⟩
  · have hb := s1 _ _ hb0
    walk_at "all"
    have eL : (tx l).length = l.length := tx_len l
    refine lenA_lst (.of hb) ?_
    rw [List.length_map]
    walk_at "go"
    refine lenA_str (by rw [eL]; exact small2 (by omega)) ?_
    rw [eL]
    walk_at "go"
    refine rd_iteN (fun ne => ?_) (fun eq => ?_)
    · walk_at "go"
      exact hE2 e1 (by omega) _ s1
    · walk_at "go"
      have eq' : hs.length = l.length := by omega
      refine ⟨b, rfl, ⟨_, .of hb⟩, ?_⟩
      refine for_it (walk_list (xs := hs.map V.int)) (fun i σ H2 => Same H1 H2 ∧ (∃ v4, σ = [some (.ref y), some (.str (tx l)), some (.ref b), some (.str (tx l)), v4]) ∧ ∀ (j : Nat) (x : Int), j < i → hs[j]? = some x → 0 ≤ x ∧ x ≤ 9) ⟨Same.refl _, ⟨none, rfl⟩, fun j x hj _ => absurd hj (Nat.not_lt_zero _)⟩ (fun i σ H2 _ q => .of (q.1 _ _ hb)) ?_ ?_
      · rintro i x σ H2 H3 hi ⟨s2, ⟨v4, rfl⟩, hp⟩ ⟨rfl, hx⟩
        obtain ⟨z, hz, rfl⟩ := getI hx
        walk_at "go"
        refine rd_ite (fun c1 => ?_) (fun c1 => ?_)
        · walk_at "go"
          refine rd_iteN (fun c2 => ?_) (fun c2 => ?_)
          · walk_at "go"
            refine ⟨_, rfl, fun d hd => ?_⟩
            exact hE3 e1 eq' z (badH_at hs i z hp hz (by omega)) _ d (s1.trans s2) hd
          · walk_at "go"
            refine ⟨s2, ⟨_, rfl⟩, fun j x hj e => ?_⟩
            by_cases hji : j = i
            · subst hji
              rw [hz] at e
              have := Option.some.inj e
              omega
            · exact hp j x (by omega) e
        · walk_at "go"
          refine ⟨_, rfl, ?_⟩
          walk_at "go"
          refine ⟨_, rfl, fun d hd => ?_⟩
          exact hE3 e1 eq' z (badH_at hs i z hp hz (by omega)) _ d (s1.trans s2) hd
      · rintro σ H2 ⟨s2, ⟨v4, rfl⟩, hp⟩
        have ok := badH_none hs fun j x e => hp j x (by rw [List.length_map]; exact (List.getElem?_eq_some_iff.mp e).1) e
        walk_at "go"
        have s3 := s1.trans s2
        refine ⟨tx l, b, _, rfl, .of (s2 _ _ hb), by rw [List.length_map]; simp [tx]; omega, fun D as H4 k4 hD has hDas hlen eD pairs => ?_⟩
        have hy4 := k4 _ _ (s3 _ _ hy)
        have yD : D ≠ y := fun q => by rw [q, s3 _ _ hy] at hD; cases hD
        walk_at "go"
        refine ⟨y, _, dx, [], rfl, hy4, T.c_Row, T.n_Row_pairs, by decide, ?_⟩
        have free : H D = none := by
          cases e : H D with
          | none => rfl
          | some o => rw [s3 _ _ e] at hD; cases hD
        refine h e1 eq' ok D _ (fun c o n e => ?_) free upd_same ⟨as, ?_, ?_, ?_⟩
        · rw [upd_ne n]
          exact k4 _ _ (s3 _ _ e)
        · rw [upd_ne yD]; exact eD
        · rw [hlen, List.length_map, List.length_zip]; omega
        · rintro j a ⟨c, z⟩ ea ep
          obtain ⟨q1, q2⟩ := List.getElem?_zip_eq_some.mp ep
          have nay : a ≠ y := fun q => by
            have := has a (List.mem_of_getElem? ea)
            rw [q, s3 _ _ hy] at this
            cases this
          rw [upd_ne nay]
          exact pairs j a c (.int z) ea (by rw [tx_get]; exact q1) (by rw [List.getElem?_map, q2]; rfl)
  · walk_at "all"
    intro p hp
    have sp := Same.new (o := .lst [.int 0]) hp
    have hy1 := s1 _ _ hy
    walk_at "go"
    refine lenA_str (z := tx l) (by rw [tx_len]; exact small2 (by omega)) ?_
    rw [tx_len]
    refine .inr (.inl ⟨p, _, _, rfl, rfl, upd_same, by omega, by omega, by rw [List.length_singleton, sizeLine_eq]; omega, fun b hb9 => ?_⟩)
    rw [Int.toNat_natCast, rep0, ← er]
    have s1' := s1
    have s1 := (s1'.trans sp).trans (Same.new (o := .lst (hs.map V.int)) hb9)
    have hb : upd (upd H1 p (.lst [.int 0])) b (.lst (hs.map V.int)) b = some (.lst (hs.map V.int)) := upd_same
    generalize upd (upd H1 p (.lst [.int 0])) b (.lst (hs.map V.int)) = H1 at s1 hb
    walk_at "go"
    have eL : (tx l).length = l.length := tx_len l
    refine lenA_lst (.of hb) ?_
    rw [List.length_map]
    walk_at "go"
    refine lenA_str (by rw [eL]; exact small2 (by omega)) ?_
    rw [eL]
    walk_at "go"
    refine rd_iteN (fun ne => ?_) (fun eq => ?_)
    · walk_at "go"
      exact hE2 e1 (by omega) _ s1
    · walk_at "go"
      have eq' : hs.length = l.length := by omega
      refine ⟨b, rfl, ⟨_, .of hb⟩, ?_⟩
      refine for_it (walk_list (xs := hs.map V.int)) (fun i σ H2 => Same H1 H2 ∧ (∃ v4, σ = [some (.ref y), some (.str (tx l)), some (.ref b), some (.str (tx l)), v4]) ∧ ∀ (j : Nat) (x : Int), j < i → hs[j]? = some x → 0 ≤ x ∧ x ≤ 9) ⟨Same.refl _, ⟨none, rfl⟩, fun j x hj _ => absurd hj (Nat.not_lt_zero _)⟩ (fun i σ H2 _ q => .of (q.1 _ _ hb)) ?_ ?_
      · rintro i x σ H2 H3 hi ⟨s2, ⟨v4, rfl⟩, hp⟩ ⟨rfl, hx⟩
        obtain ⟨z, hz, rfl⟩ := getI hx
        walk_at "go"
        refine rd_ite (fun c1 => ?_) (fun c1 => ?_)
        · walk_at "go"
          refine rd_iteN (fun c2 => ?_) (fun c2 => ?_)
          · walk_at "go"
            refine ⟨_, rfl, fun d hd => ?_⟩
            exact hE3 e1 eq' z (badH_at hs i z hp hz (by omega)) _ d (s1.trans s2) hd
          · walk_at "go"
            refine ⟨s2, ⟨_, rfl⟩, fun j x hj e => ?_⟩
            by_cases hji : j = i
            · subst hji
              rw [hz] at e
              have := Option.some.inj e
              omega
            · exact hp j x (by omega) e
        · walk_at "go"
          refine ⟨_, rfl, ?_⟩
          walk_at "go"
          refine ⟨_, rfl, fun d hd => ?_⟩
          exact hE3 e1 eq' z (badH_at hs i z hp hz (by omega)) _ d (s1.trans s2) hd
      · rintro σ H2 ⟨s2, ⟨v4, rfl⟩, hp⟩
        have ok := badH_none hs fun j x e => hp j x (by rw [List.length_map]; exact (List.getElem?_eq_some_iff.mp e).1) e
        walk_at "go"
        have s3 := s1.trans s2
        refine ⟨tx l, b, _, rfl, .of (s2 _ _ hb), by rw [List.length_map]; simp [tx]; omega, fun D as H4 k4 hD has hDas hlen eD pairs => ?_⟩
        have hy4 := k4 _ _ (s3 _ _ hy)
        have yD : D ≠ y := fun q => by rw [q, s3 _ _ hy] at hD; cases hD
        walk_at "go"
        refine ⟨y, _, dx, [], rfl, hy4, T.c_Row, T.n_Row_pairs, by decide, ?_⟩
        have free : H D = none := by
          cases e : H D with
          | none => rfl
          | some o => rw [s3 _ _ e] at hD; cases hD
        refine h e1 eq' ok D _ (fun c o n e => ?_) free upd_same ⟨as, ?_, ?_, ?_⟩
        · rw [upd_ne n]
          exact k4 _ _ (s3 _ _ e)
        · rw [upd_ne yD]; exact eD
        · rw [hlen, List.length_map, List.length_zip]; omega
        · rintro j a ⟨c, z⟩ ea ep
          obtain ⟨q1, q2⟩ := List.getElem?_zip_eq_some.mp ep
          have nay : a ≠ y := fun q => by
            have := has a (List.mem_of_getElem? ea)
            rw [q, s3 _ _ hy] at this
            cases this
          rw [upd_ne nay]
          exact pairs j a c (.int z) ea (by rw [tx_get]; exact q1) (by rw [List.getElem?_map, q2]; rfl)
/-! what a row tells -/
theorem join_ok {L : Addr} {cs : List Nat} {H : Hp} {Q : VK} (eL : H L = some (.lst (cs.map fun c => V.str (tx [c])))) (hl : cs.length ≤ 10000) (h : Q (.str (tx cs)) H) : rJoinA K (.str (Str.ofString "")) [.ref L] H Q := by
  have e1 : (cs.map fun c => V.str (tx [c])) = ((cs.map fun c => [c]).map tx).map V.str := by simp
  refine ⟨_, L, (cs.map fun c => [c]).map tx, rfl, rfl, .inl (SqL.of (by rw [eL, e1])), ?_, ?_⟩
  · have hs : (((cs.map fun c => [c]).map tx).map fun x => x.length) = List.replicate cs.length 1 := by
      rw [List.map_map, List.map_map]
      apply List.eq_replicate_iff.mpr
      refine ⟨by simp, fun b hb => ?_⟩
      obtain ⟨c, _, rfl⟩ := List.mem_map.mp hb
      rfl
    rw [hs]
    simp
    show cs.length + cs.length * 0 ≤ 16777216
    omega
  · rw [join_tx, flat_one]
    exact h
theorem take_map {α β : Type} (f : α → β) (ps : List α) (i : Nat) (p : α) (h : ps[i]? = some p) : (ps.take i).map f ++ [f p] = (ps.take (i + 1)).map f := by
  have hi := (List.getElem?_eq_some_iff.mp h).1
  have e : ps[i] = p := (List.getElem?_eq_some_iff.mp h).2
  rw [List.take_succ_eq_append_getElem hi, List.map_append, List.map_singleton, e]
theorem prs_at {as : List Addr} {ps : List (Nat × Int)} {i : Nat} {x : V} (hl : as.length = ps.length) (h : (as.map V.ref)[i]? = some x) : ∃ a p, as[i]? = some a ∧ ps[i]? = some p ∧ x = .ref a := by
  rw [List.getElem?_map] at h
  cases e : as[i]? with
  | none => rw [e] at h; cases h
  | some a =>
    rw [e] at h
    have hi := (List.getElem?_eq_some_iff.mp e).1
    exact ⟨a, ps[i], rfl, List.getElem?_eq_getElem (by omega), (Option.some.inj h).symm⟩
theorem small3 {n : Nat} (h : n ≤ 10000) : n < sizeLine := by rw [sizeLine_eq]; omega
theorem row_heights_ok {P : Program} {mg : Str → Option Value} (T : Txt P K mg) {y D : Addr} {ps : List (Nat × Int)} {H : Hp} {Q : VK} {E : XK} (hn : ps.length ≤ 10000) (hy : RowAt K H y D ps)
    (h : ∀ L H', Same H H' → H L = none → H' L = some (.lst ((ps.map Prod.snd).map V.int)) → Q (.ref L) H') : sp_Row_heights K [.ref y] H Q E := by
  obtain ⟨⟨dx, hy⟩, as, hD, hl, hp⟩ := hy
  refine ⟨rfl, ?_⟩
  unfold t_Row_heights
  walk_at "go"
  refine ⟨y, _, dx, _, _, rfl, hy, T.c_Row, T.n_Row_pairs, look_pairs _, D, rfl, ⟨_, .of hD⟩, ?_⟩
  intro L hL
  refine lc_it (walk_list (K := K) (a := D) (xs := as.map V.ref)) (fun i H2 => Same H H2 ∧ H2 L = some (.lst (((ps.take i).map Prod.snd).map V.int))) ⟨Same.new hL, by rw [upd_same]; rfl⟩ (fun i H2 _ q => .of (q.1 _ _ hD)) ?_ ?_
  · rintro i x H2 H3 hi ⟨s2, eL⟩ ⟨rfl, hx⟩
    obtain ⟨a, p, ea, ep, rfl⟩ := prs_at hl hx
    refine rd_gtup (s2 _ _ (hp i a p ea ep)) rfl ?_
    walk_at "go"
    refine ⟨rfl, ?_⟩
    walk_at "go"
    refine ⟨_, eL, by rw [List.length_map, List.length_map, List.length_take]; exact small3 (by omega), fun b o e => ?_, ?_⟩
    · rw [upd_ne (ne_of_none e hL)]
      exact s2 b o e
    · rw [upd_same, mapI_app, take_map Prod.snd ps i p ep]
  · rintro H2 ⟨s2, eL⟩
    refine h L H2 s2 hL ?_
    rw [eL, List.length_map, hl, List.take_length]
theorem row_signs_ok {P : Program} {mg : Str → Option Value} (T : Txt P K mg) {y D : Addr} {ps : List (Nat × Int)} {H : Hp} {Q : VK} {E : XK} (hn : ps.length ≤ 10000) (hy : RowAt K H y D ps)
    (h : ∀ H', Same H H' → Q (.str (tx (ps.map Prod.fst))) H') : sp_Row_signs K [.ref y] H Q E := by
  obtain ⟨⟨dx, hy⟩, as, hD, hl, hp⟩ := hy
  refine ⟨rfl, ?_⟩
  unfold t_Row_signs
  walk_at "go"
  refine ⟨⟨_, rfl⟩, ?_⟩
  walk_at "go"
  refine ⟨y, _, dx, _, _, rfl, hy, T.c_Row, T.n_Row_pairs, look_pairs _, D, rfl, ⟨_, .of hD⟩, ?_⟩
  intro L hL
  refine lc_it (walk_list (K := K) (a := D) (xs := as.map V.ref)) (fun i H2 => Same H H2 ∧ H2 L = some (.lst (((ps.take i).map Prod.fst).map fun c => V.str (tx [c])))) ⟨Same.new hL, by rw [upd_same]; rfl⟩ (fun i H2 _ q => .of (q.1 _ _ hD)) ?_ ?_
  · rintro i x H2 H3 hi ⟨s2, eL⟩ ⟨rfl, hx⟩
    obtain ⟨a, p, ea, ep, rfl⟩ := prs_at hl hx
    refine rd_gtup (s2 _ _ (hp i a p ea ep)) rfl ?_
    walk_at "go"
    refine ⟨rfl, ?_⟩
    walk_at "go"
    refine ⟨_, eL, by rw [List.length_map, List.length_map, List.length_take]; exact small3 (by omega), fun b o e => ?_, ?_⟩
    · rw [upd_ne (ne_of_none e hL)]
      exact s2 b o e
    · rw [upd_same, ← take_map Prod.fst ps i p ep, List.map_append]
      rfl
  · rintro H2 ⟨s2, eL⟩
    refine join_ok (cs := ps.map Prod.fst) ?_ (by rw [List.length_map]; exact hn) (h H2 s2)
    rw [eL, List.length_map, hl, List.take_length]
theorem row_len_ok {P : Program} {mg : Str → Option Value} (T : Txt P K mg) {y D : Addr} {ps : List (Nat × Int)} {H : Hp} {Q : VK} {E : XK} (hy : RowAt K H y D ps) (h : Q (.int ps.length) H) : sp_Row_len K [.ref y] H Q E := by
  obtain ⟨⟨dx, hy⟩, as, hD, hl, hp⟩ := hy
  refine ⟨rfl, ?_⟩
  unfold t_Row_len
  walk_at "go"
  refine ⟨y, _, dx, _, _, rfl, hy, T.c_Row, T.n_Row_pairs, look_pairs _, ?_⟩
  walk_at "go"
  refine lenA_lst (.of hD) ?_
  rw [List.length_map, hl]
  exact h
theorem row_iter_ok {P : Program} {mg : Str → Option Value} (T : Txt P K mg) {y D : Addr} {ps : List (Nat × Int)} {H : Hp} {Q : VK} {E : XK} (hy : RowAt K H y D ps) (h : ∀ it, H it = none → Q (.ref it) (upd H it (ItO D it 0))) : sp_Row_iter K [.ref y] H Q E := by
  obtain ⟨⟨dx, hy⟩, as, hD, hl, hp⟩ := hy
  refine ⟨rfl, ?_⟩
  unfold t_Row_iter
  walk_at "go"
  refine ⟨y, _, dx, _, _, rfl, hy, T.c_Row, T.n_Row_pairs, look_pairs _, ?_⟩
  walk_at "go"
  exact ⟨D, _, rfl, .of hD, h⟩
/-- the greatest height, 0 if there is none -/
def topH (hs : List Int) : Int := hs.foldl max 0
theorem foldl_max : ∀ (hs : List Int) (m : Int), m ≤ hs.foldl max m ∧ (∀ x ∈ hs, x ≤ hs.foldl max m) ∧ (hs.foldl max m = m ∨ hs.foldl max m ∈ hs)
  | [], m => ⟨Int.le_refl _, (fun _ h => nomatch h), .inl rfl⟩
  | z :: r, m => by
    obtain ⟨h1, h2, h3⟩ := foldl_max r (max m z)
    have e1 : m ≤ max m z := Int.le_max_left ..
    have e2 : z ≤ max m z := Int.le_max_right ..
    refine ⟨Int.le_trans e1 h1, fun x hx => ?_, ?_⟩
    · rcases List.mem_cons.mp hx with q | q
      · rw [q]; exact Int.le_trans e2 h1
      · exact h2 x q
    · rcases h3 with h3 | h3
      · have : max m z = m ∨ max m z = z := by omega
        rcases this with q | q
        · left
          show r.foldl max (max m z) = m
          rw [h3, q]
        · right
          show r.foldl max (max m z) ∈ z :: r
          rw [h3, q]
          exact List.mem_cons_self
      · right
        exact List.mem_cons_of_mem _ h3
theorem max_ok {p : Addr} {hs : List Int} {H : Hp} {Q : VK} (hp : H p = some (.lst (V.int 0 :: hs.map V.int))) (h : Q (.int (topH hs)) H) : rMaxA K [.ref p] H Q := by
  refine ⟨p, 0 :: hs, rfl, .of hp, by simp, fun m hm hu => ?_⟩
  obtain ⟨h1, h2, h3⟩ := foldl_max hs 0
  have a1 : topH hs ∈ 0 :: hs := by
    rcases h3 with q | q
    · show hs.foldl max 0 ∈ 0 :: hs
      rw [q]; exact List.mem_cons_self
    · exact List.mem_cons_of_mem _ q
  have a2 := hu _ a1
  have a3 : m ≤ topH hs := by
    rcases List.mem_cons.mp hm with q | q
    · rw [q]; exact h1
    · exact h2 m q
  have : m = topH hs := by omega
  rw [this]
  exact h
theorem row_abs_ok {P : Program} {mg : Str → Option Value} (T : Txt P K mg) {y D : Addr} {ps : List (Nat × Int)} {H : Hp} {Q : VK} {E : XK} (hn : ps.length ≤ 10000) (hy : RowAt K H y D ps) (h : ∀ H', Same H H' → Q (.int (topH (ps.map Prod.snd))) H') : sp_Row_abs K [.ref y] H Q E := by
  refine ⟨rfl, ?_⟩
  unfold t_Row_abs
  walk_at "go"
  intro p hp
  have s0 := Same.new (o := .lst [.int 0]) hp
  walk_at "go"
  obtain ⟨dx, e1⟩ := (hy.same s0).1
  refine ⟨y, dx, _, rfl, e1, row_heights_ok T hn (hy.same s0) fun L H2 s2 hL eL => ?_⟩
  refine addA_lst (s2 _ _ upd_same) eL (by rw [List.length_map, List.length_map, List.length_singleton, sizeLine_eq]; omega) fun q hq => ?_
  walk_at "go"
  exact max_ok upd_same (h _ ((s0.trans s2).trans (Same.new hq)))
/-! whole numbers -/
theorem is_int_ok {i : Int} {H : Hp} {Q : VK} {E : XK} (h : Q (.bl true) H) : sp_law_is_int K [.int i] H Q E := by
  refine ⟨rfl, ?_⟩
  unfold t_law_is_int
  walk_at "go"
  refine isi_go (.ty _) (.base (.int i)) (kit_ty (r := true) (by decide +kernel)) ?_
  walk_at "all"
  refine isi_go (.ty _) (.base (.int i)) (kit_ty (r := false) (by decide +kernel)) ?_
  walk_at "go"
  exact h
/-! what the law sees of a row -/
theorem prs_get {H : Hp} {D : Addr} {ps : List (Nat × Int)} (h : Prs H D ps) {i : Nat} (hi : i < ps.length) : ∃ (as : List Addr) (a : Addr), H D = some (.lst (as.map V.ref)) ∧ atI (as.map V.ref) (i : Int) = some (.ref a) ∧ H a = some (.tup [.str (tx [ps[i].1]), .int ps[i].2]) := by
  obtain ⟨as, hD, hl, hp⟩ := h
  have h1 : i < as.length := by omega
  refine ⟨as, as[i], hD, atI_nat (by rw [List.getElem?_map, List.getElem?_eq_getElem h1]; rfl), hp i _ _ (List.getElem?_eq_getElem h1) (List.getElem?_eq_getElem hi)⟩
theorem pairData {H : Hp} {a : Addr} {z : Str} {i : Int} (h : H a = some (.tup [.str z, .int i])) : Dp K H (.ref a) (.tuple [.str z, .int i]) := .tup (SqT.of h) (.cons (.str _) (.cons (.int _) .nil))
theorem letters_small : ∀ c ∈ letters, c < 0x110000 := by decide +kernel
theorem strOk_one {c : Nat} (h : c ∈ letters) : PyData.strOk (tx [c]) = true := by
  have := letters_small c h
  simp [PyData.strOk, tx, this]
theorem shaped_pair {z : Str} (i : Int) (h : PyData.strOk z = true) : SeqAt.shaped (.tuple [.str z, .int i]) = true := by simp [SeqAt.shaped, PyData.canLay0, PyData.canLayAll0, PyData.depth, PyData.depthAll, h]
theorem eqv_pair (z z' : Str) (i i' : Int) : PyData.eqv (.tuple [.str z, .int i]) (.tuple [.str z', .int i']) = decide (z = z' ∧ i = i') := by
  by_cases h1 : z = z'
  · by_cases h2 : i = i'
    · subst h1 h2; simp [PyData.eqv, PyData.eqvAll]
    · subst h1; simp [PyData.eqv, PyData.eqvAll, h2]
  · simp [PyData.eqv, PyData.eqvAll, h1]
theorem shows_ok {P : Program} {mg : Str → Option Value} (T : Txt P K mg) {y D M : Addr} {ps : List (Nat × Int)} {H : Hp} {Q : VK} {E : XK} (hn : ps.length ≤ 10000) (hc : ∀ p ∈ ps, p.1 ∈ letters) (hy : RowAt K H y D ps) (hM : Prs H M ps) (h : ∀ H', Same H H' → Q (.bl true) H') : sp_law_shows K [.ref y, .ref M] H Q E := by
  refine ⟨rfl, ?_⟩
  unfold t_law_shows
  walk_at "go"
  obtain ⟨dx, ey⟩ := hy.1
  refine isi_go (.own _) (Rz.tyX_own T.ty_Row ey) T.ty_Row.me ?_
  walk_at "all"
  refine ⟨y, dx, _, rfl, ey, row_signs_ok T hn hy fun H1 s1 => ?_⟩
  walk_at "go"
  refine isi_go (.ty _) (.base (.str _)) (kit_ty (r := true) (by decide +kernel)) ?_
  walk_at "all"
  refine ⟨y, dx, _, rfl, s1 _ _ ey, row_heights_ok T hn (hy.same s1) fun L1 H2 s2 _ eL1 => ?_⟩
  walk_at "go"
  refine isi_go (.ty _) (.base (.lst eL1)) (kit_ty (r := true) (by decide +kernel)) ?_
  walk_at "all"
  have s12 := s1.trans s2
  refine ⟨y, dx, _, rfl, s12 _ _ ey, fun q hq => row_iter_ok T ((hy.same s12).same (Same.new hq)) fun it hit => ?_⟩
  have sq := Same.new (o := .lst []) hq
  have si := Same.new (o := ItO D it 0) hit
  have hy3 := ((hy.same s12).same sq).same si
  obtain ⟨as, hD, hl, hp⟩ := (hy.same s12).2
  have Dq : D ≠ q := fun e => by rw [e, hq] at hD; cases hD
  have qit : it ≠ q := fun e => by rw [e, upd_same] at hit; cases hit
  refine ⟨D, it, as.map V.ref, dx, _, rfl, (si _ _ (sq _ _ (s12 _ _ ey))), upd_same, row_len_ok T hy3 ⟨_, rfl, by omega, by omega, si _ _ (sq _ _ hD), upd_same, si _ _ upd_same, Dq, fun H4 same eq => ?_⟩⟩
  have s4 : Same H H4 := fun b o e => by
    have e2 := s12 _ _ e
    rw [same b (fun z => by rw [z, hq] at e2; cases e2) (fun z => by have := sq _ _ e2; rw [z, hit] at this; cases this)]
    exact si _ _ (sq _ _ e2)
  have eqQ : Prs H4 q ps := ⟨as, eq, hl, fun j a p e f => by
    have e2 := hp j a p e f
    rw [same a (fun z => by rw [z, hq] at e2; cases e2) (fun z => by have := sq _ _ e2; rw [z, hit] at this; cases this)]
    exact si _ _ (sq _ _ e2)⟩
  clear hit si hy3 same
  have hy4 := hy.same s4
  have hM4 := hM.same s4
  obtain ⟨am, eM, lM, _⟩ := id hM4
  walk_at "go"
  refine lenA_lst (.of eq) ?_
  walk_at "go"
  refine lenA_lst (.of eM) ?_
  rw [List.length_map, List.length_map, hl, lM]
  walk_at "go"
  rw [decide_eq_true (rfl : (ps.length : Int) = ps.length)]
  walk_at "all"
  refine ⟨y, dx, _, rfl, s4 _ _ ey, row_len_ok T hy4 ⟨_, rfl, by omega, by omega, ?_⟩⟩
  walk_at "go"
  refine lenA_lst (.of eM) ?_
  rw [List.length_map, lM]
  walk_at "go"
  rw [decide_eq_true (rfl : (ps.length : Int) = ps.length)]
  walk_at "all"
  refine ⟨y, dx, _, rfl, s4 _ _ ey, row_heights_ok T hn hy4 fun L5 H5 s5 _ eL5 => ?_⟩
  walk_at "go"
  refine lenA_lst (.of eL5) ?_
  rw [List.length_map, List.length_map]
  walk_at "go"
  refine lenA_lst (.of (s5 _ _ eM)) ?_
  rw [List.length_map, lM]
  walk_at "go"
  rw [decide_eq_true (rfl : (ps.length : Int) = ps.length)]
  walk_at "all"
  refine lenA_lst (.of (s5 _ _ eM)) ?_
  rw [List.length_map, lM]
  walk_at "go"
  have s05 := s4.trans s5
  refine ⟨ps.length, rfl, by omega, by omega, ?_⟩
  refine forR (n := ps.length) (fun i σ H6 => Same H5 H6 ∧ ∃ v3 v4, σ = [some (.ref y), some (.ref M), some (.ref q), v3, v4]) ⟨Same.refl _, none, none, rfl⟩ ?_ ?_
  · rintro i σ H6 hi ⟨s6, v3, v4, rfl⟩
    have hi' : i < ps.length := by omega
    have s56 := s5.trans s6
    have ok := strOk_one (hc ps[i] (List.getElem_mem hi'))
    obtain ⟨a1, t1, f1, g1, k1⟩ := prs_get (eqQ.same s56) hi'
    obtain ⟨a2, t2, f2, g2, k2⟩ := prs_get (hM4.same s56) hi'
    walk_at "go"
    refine ixA_lst (.of f1) g1 ?_
    walk_at "go"
    refine isi_go (.ty _) (.base (.tup k1)) (kit_ty (r := true) (by decide +kernel)) ?_
    walk_at "all"
    refine ixA_lst (.of f1) g1 ?_
    walk_at "go"
    refine ixA_lst (.of f2) g2 ?_
    walk_at "go"
    refine neA_data (pairData k1) (pairData k2) (shaped_pair _ ok) (shaped_pair _ ok) ((eqv_pair _ _ _ _).trans (decide_eq_true ⟨rfl, rfl⟩)) ?_
    walk_at "all"
    refine ixA_lst (.of f1) g1 ?_
    walk_at "go"
    refine ixA_tup (SqT.of k1) (v := .int ps[i].2) rfl ?_
    walk_at "go"
    refine is_int_ok ?_
    walk_at "all"
    refine ⟨y, dx, _, rfl, s6 _ _ (s05 _ _ ey), row_heights_ok T hn (hy.same (s05.trans s6)) fun L7 H7 s7 _ eL7 => ?_⟩
    have hgt : atI ((ps.map Prod.snd).map V.int) (i : Int) = some (.int ps[i].2) := atI_nat (by rw [List.getElem?_map, List.getElem?_map, List.getElem?_eq_getElem hi']; rfl)
    walk_at "go"
    refine ixA_lst (.of eL7) hgt ?_
    walk_at "go"
    refine ixA_lst (.of (s7 _ _ f2)) g2 ?_
    walk_at "go"
    refine ixA_tup (SqT.of (s7 _ _ k2)) (v := .int ps[i].2) rfl ?_
    walk_at "go"
    rw [decide_eq_true (rfl : ps[i].2 = ps[i].2)]
    walk_at "all"
    refine ⟨y, dx, _, rfl, s7 _ _ (s6 _ _ (s05 _ _ ey)), row_heights_ok T hn (hy.same ((s05.trans s6).trans s7)) fun L8 H8 s8 _ eL8 => ?_⟩
    walk_at "go"
    refine ixA_lst (.of eL8) hgt ?_
    walk_at "go"
    refine is_int_ok ?_
    walk_at "all"
    exact ⟨(s6.trans s7).trans s8, _, _, rfl⟩
  · rintro σ H6 ⟨s6, v3, v4, rfl⟩
    have s06 := s05.trans s6
    walk_at "go"
    refine ⟨y, dx, _, rfl, s06 _ _ ey, row_signs_ok T hn (hy.same s06) fun H7 s7 => ?_⟩
    have s07 := s06.trans s7
    walk_at "go"
    refine ⟨⟨_, rfl⟩, ?_⟩
    walk_at "go"
    obtain ⟨am7, eM7, lM7, hM7⟩ := hM.same s07
    refine ⟨M, rfl, ⟨_, .of eM7⟩, ?_⟩
    intro L hL
    refine lc_it (walk_list (K := K) (a := M) (xs := am7.map V.ref)) (fun i H8 => Same H7 H8 ∧ H8 L = some (.lst (((ps.take i).map Prod.fst).map fun c => V.str (tx [c])))) ⟨Same.new hL, by rw [upd_same]; rfl⟩ (fun i H8 _ p => .of (p.1 _ _ eM7)) ?_ ?_
    · rintro i x H8 H9 hi ⟨s8, eL⟩ ⟨rfl, hx⟩
      obtain ⟨a, p, ea, ep, rfl⟩ := prs_at lM7 hx
      walk_at "go"
      refine ⟨rfl, ?_⟩
      walk_at "go"
      refine ixA_tup (SqT.of (s8 _ _ (hM7 i a p ea ep))) (v := .str (tx [p.1])) rfl ?_
      refine ⟨_, eL, by rw [List.length_map, List.length_map, List.length_take]; exact small3 (by omega), fun b o e => ?_, ?_⟩
      · rw [upd_ne (ne_of_none e hL)]
        exact s8 b o e
      · rw [upd_same, ← take_map Prod.fst ps i p ep, List.map_append]
        rfl
    · rintro H8 ⟨s8, eL⟩
      refine join_ok (cs := ps.map Prod.fst) (by rw [eL, List.length_map, lM7, List.take_length]) (by rw [List.length_map]; exact hn) ?_
      have s08 := s07.trans s8
      walk_at "go"
      rw [decide_eq_true (rfl : tx (ps.map Prod.fst) = tx (ps.map Prod.fst))]
      walk_at "all"
      refine ⟨y, dx, _, rfl, s08 _ _ ey, row_abs_ok T hn (hy.same s08) fun H9 s9 => ?_⟩
      walk_at "go"
      refine is_int_ok ?_
      walk_at "all"
      have s09 := s08.trans s9
      refine ⟨y, dx, _, rfl, s09 _ _ ey, row_abs_ok T hn (hy.same s09) fun Ha sa => ?_⟩
      have s0a := s09.trans sa
      walk_at "go"
      intro p hp0
      have sp := Same.new (o := .lst [.int 0]) hp0
      obtain ⟨amb, eMb, lMb, hMb⟩ := hM.same (s0a.trans sp)
      walk_at "go"
      refine ⟨M, rfl, ⟨_, .of eMb⟩, ?_⟩
      intro L2 hL2
      refine lc_it (walk_list (K := K) (a := M) (xs := amb.map V.ref)) (fun i Hb => Same (upd Ha p (.lst [.int 0])) Hb ∧ Hb L2 = some (.lst (((ps.take i).map Prod.snd).map V.int))) ⟨Same.new hL2, by rw [upd_same]; rfl⟩ (fun i Hb _ p => .of (p.1 _ _ eMb)) ?_ ?_
      · rintro i x Hb Hc hi ⟨sb, eL2⟩ ⟨rfl, hx⟩
        obtain ⟨a, p', ea, ep, rfl⟩ := prs_at lMb hx
        walk_at "go"
        refine ⟨rfl, ?_⟩
        walk_at "go"
        refine ixA_tup (SqT.of (sb _ _ (hMb i a p' ea ep))) (v := .int p'.2) rfl ?_
        refine ⟨_, eL2, by rw [List.length_map, List.length_map, List.length_take]; exact small3 (by omega), fun b o e => ?_, ?_⟩
        · rw [upd_ne (ne_of_none e hL2)]
          exact sb b o e
        · rw [upd_same, mapI_app, take_map Prod.snd ps i p' ep]
      · rintro Hb ⟨sb, eL2⟩
        rw [List.length_map, lMb, List.take_length] at eL2
        refine addA_lst (sb _ _ upd_same) eL2 (by rw [List.length_map, List.length_map, List.length_singleton, sizeLine_eq]; omega) fun r hr => ?_
        walk_at "go"
        refine max_ok upd_same ?_
        walk_at "go"
        rw [decide_eq_true (rfl : topH (ps.map Prod.snd) = topH (ps.map Prod.snd))]
        exact h _ (((s0a.trans sp).trans sb).trans (Same.new hr))
theorem rd_own {C : Addr} {sp : Sp} {E : L2.St → XK} {Pv : V → Hp → Prop} {ta tb : TE} {σ : L2.St} {H : Hp} {Q : VK} (h : ta σ H fun x H1 => tb σ H1 fun y H2 => ∃ a dx fs, x = .ref a ∧ H2 a = some (.ins C dx fs) ∧ Pv y H2 ∧ sp [.ref a, y] H2 Q (E σ)) : tOwn C sp E Pv ta tb σ H Q := h
theorem rd_inO {C : Addr} {sp : Sp} {E : L2.St → XK} {ta tb : TE} {σ : L2.St} {H : Hp} {Q : VK} (h : ta σ H fun x H1 => tb σ H1 fun y H2 => ∃ a dx fs, y = .ref a ∧ H2 a = some (.ins C dx fs) ∧ sp [.ref a, x] H2 (fun v H' => ∃ b, v = .bl b ∧ Q (.bl b) H') (E σ)) : tInO C sp E ta tb σ H Q := h
theorem rd_rmul {C : Addr} {sp : Sp} {E : L2.St → XK} {ta tb : TE} {σ : L2.St} {H : Hp} {Q : VK} (h : ta σ H fun x H1 => tb σ H1 fun y H2 => ∃ i a dx fs, x = .int i ∧ y = .ref a ∧ H2 a = some (.ins C dx fs) ∧ sp [.ref a, .int i] H2 Q (E σ)) : tRmul C sp E ta tb σ H Q := h
theorem rd_sli {ta tb : TE} {σ : L2.St} {H : Hp} {Q : VK} (h : ta σ H fun x H1 => tb σ H1 fun y H2 => ∃ i j, x = .int i ∧ y = .int j ∧ ∀ p, H2 p = none → Q (.ref p) (upd H2 p (Sli p i j))) : tSli ta tb σ H Q := h
theorem rd_gsubO {C : Addr} {sp : Sp} {E : L2.St → XK} {to ti : TE} {v : V} {σ : L2.St} {H : Hp} {Q : L2.St → Hp → Prop} (h : to σ H fun x H1 => ti σ H1 fun i H2 => ∃ a dx fs, x = .ref a ∧ H2 a = some (.ins C dx fs) ∧ sp [.ref a, i, v] H2 (fun _ H3 => Q σ H3) (E σ)) : gSubO C sp E to ti v σ H Q := h
theorem rd_dT {c : Prop} [Decidable c] {A B : Prop} (hc : c) (h : A) : if decide c = true then A else B := by rw [decide_eq_true hc]; exact h
theorem rd_dF {c : Prop} [Decidable c] {A B : Prop} (hc : ¬ c) (h : B) : if decide c = true then A else B := by rw [decide_eq_false hc]; exact h
theorem rd_nT {c : Prop} [Decidable c] {A B : Prop} (hc : c) (h : B) : if (!decide c) = true then A else B := by rw [decide_eq_true hc]; exact h
theorem rd_nF {c : Prop} [Decidable c] {A B : Prop} (hc : ¬ c) (h : A) : if (!decide c) = true then A else B := by rw [decide_eq_false hc]; exact h
theorem rd_caO {C : Addr} {sp : Sp} {dvs : List V} {E : L2.St → XK} {ta : TE} {t : TA} {σ : L2.St} {H : Hp} {Q : VK} (h : ta σ H fun y H1 => ∃ a, y = .ref a ∧ t σ H1 fun vs H2 => ∃ dx fs, H2 a = some (.ins C dx fs) ∧ sp (.ref a :: (vs ++ dvs)) H2 Q (E σ)) : tCaO C sp dvs E ta t σ H Q := h
theorem rd_caK {C : Addr} {n m : Nat} {sp : Sp} {gV : List V → List V → List V} {E : L2.St → XK} {ta : TE} {t tk : TA} {σ : L2.St} {H : Hp} {Q : VK} (h : ta σ H fun y H1 => ∃ a, y = .ref a ∧ t σ H1 fun vs H2 => tk σ H2 fun zs H3 => ∃ dx fs, H3 a = some (.ins C dx fs) ∧ vs.length = n ∧ zs.length = m ∧ sp (gV (.ref a :: vs) zs) H3 Q (E σ)) : tCaK C n m sp gV E ta t tk σ H Q := h
theorem rd_callNS {n m : Nat} {sp : Sp} {gV : List V → List V → List V} {E : L2.St → XK} {t tk : TA} {σ : L2.St} {H : Hp} {Q : VK} (h : t σ H fun vs H1 => tk σ H1 fun zs H2 => vs.length = n ∧ zs.length = m ∧ sp (gV vs zs) H2 Q (E σ)) : tCallNS n m sp gV E t tk σ H Q := h
/-- what the making of an instance asks -/
def MkG (C : Addr) (sp : Sp) (dvs vs : List V) (H1 : Hp) (Q : VK) (E : XK) : Prop := ∀ y dx, H1 y = none → H1 dx = none → dx ≠ y → sp (.ref y :: (vs ++ dvs)) (upd (upd H1 dx (.own y)) y (.ins C dx [])) (fun v H2 => v = .non ∧ Q (.ref y) H2) E
theorem rd_mkG {C : Addr} {sp : Sp} {dvs : List V} {EE : L2.St → XK} {t : TA} {σ : L2.St} {H : Hp} {Q : VK} (h : t σ H fun vs H1 => MkG C sp dvs vs H1 Q (EE σ)) : tMakeS C sp dvs EE t σ H Q := h
local macro_rules | `(tactic| walk_at "rd") => `(tactic| first
  | (with_reducible refine rd_mkG ?_) | (with_reducible refine rd_caO ?_) | (with_reducible refine rd_caK ?_) | (with_reducible refine rd_callNS ?_)
  | (with_reducible refine rd_own ?_) | (with_reducible refine rd_inO ?_) | (with_reducible refine rd_rmul ?_) | (with_reducible refine rd_sli ?_) | (with_reducible refine rd_gsubO ?_))

local macro_rules | `(tactic| walk_at "auto") => `(tactic| repeat (first
  | walk_at "rd"
  | ((with_reducible show if _ = true then _ else _); first | refine rd_iteB rfl ?_ | refine rd_iteC rfl ?_ | refine rd_dT (by first | omega | assumption) ?_ | refine rd_dF (by first | omega | assumption) ?_ | refine rd_nT (by first | omega | assumption) ?_ | refine rd_nF (by first | omega | assumption) ?_)))
local macro_rules | `(tactic| walk_at "st") => `(tactic| repeat ((fail_if_success (with_reducible show tSeq _ _ _ _ _)); first
  | walk_at "rd"
  | ((with_reducible show if _ = true then _ else _); first | refine rd_iteB rfl ?_ | refine rd_iteC rfl ?_ | refine rd_dT (by first | omega | assumption) ?_ | refine rd_dF (by first | omega | assumption) ?_ | refine rd_nT (by first | omega | assumption) ?_ | refine rd_nF (by first | omega | assumption) ?_)))
local macro_rules | `(tactic| walk_at "sq") => `(tactic| ((with_reducible show tSeq _ _ _ _ _); refine rd_seq ?_))
/-! rows made -/
def Okp (ps : List (Nat × Int)) : Prop := ∀ p ∈ ps, p.1 ∈ letters ∧ 0 ≤ p.2 ∧ p.2 ≤ 9
theorem Okp.app {ps qs : List (Nat × Int)} (a : Okp ps) (b : Okp qs) : Okp (ps ++ qs) := fun p h => (List.mem_append.mp h).elim (a p) (b p)
theorem Okp.sub {ps qs : List (Nat × Int)} (a : Okp ps) (h : ∀ p ∈ qs, p ∈ ps) : Okp qs := fun p m => a p (h p m)
theorem Okp.set {ps : List (Nat × Int)} {i c : Nat} {z : Int} (ok : Okp ps) (hc : c ∈ letters) (hz : 0 ≤ z ∧ z ≤ 9) : Okp (ps.set i (c, z)) := fun p h => by
  rcases List.mem_or_eq_of_mem_set h with h | h
  · exact ok p h
  · rw [h]; exact ⟨hc, hz⟩
theorem Okp.let {ps : List (Nat × Int)} (a : Okp ps) : ∀ p ∈ ps, p.1 ∈ letters := fun p h => (a p h).1
theorem fo_ok : ∀ {l : List Nat}, (∀ c ∈ l, c ∈ letters) → fo l = -1 := fun {l} h => fo_none l fun j x e => h x (List.mem_of_getElem? e)
theorem Okp.fo {ps : List (Nat × Int)} (a : Okp ps) : fo (ps.map Prod.fst) = -1 := fo_ok fun c h => by
  obtain ⟨p, hp, rfl⟩ := List.mem_map.mp h
  exact (a p hp).1
theorem Okp.bad {ps : List (Nat × Int)} (a : Okp ps) : badH (ps.map Prod.snd) = none := badH_none _ fun j x e => by
  obtain ⟨p, hp, rfl⟩ := List.mem_map.mp (List.mem_of_getElem? e)
  exact (a p hp).2
theorem zip_ps : ∀ ps : List (Nat × Int), (ps.map Prod.fst).zip (ps.map Prod.snd) = ps
  | [] => rfl
  | p :: r => by rw [List.map_cons, List.map_cons, List.zip_cons_cons, zip_ps r]
theorem keep_same {y dx : Addr} {C : Addr} {H H' : Hp} (hy : H y = none) (hdx : H dx = none) (k : Keep y (upd (upd H dx (.own y)) y (.ins C dx [])) H') : Same H H' := fun b o e => k b o (ne_of_none e hy) (by rw [upd_ne (ne_of_none e hy), upd_ne (ne_of_none e hdx)]; exact e)
theorem made_same {y dx : Addr} {C : Addr} {H : Hp} (hy : H y = none) (hdx : H dx = none) : Same H (upd (upd H dx (.own y)) y (.ins C dx [])) := fun b o e => by rw [upd_ne (ne_of_none e hy), upd_ne (ne_of_none e hdx)]; exact e
theorem Same.free {H H' : Hp} (s : Same H H') {a : Addr} (h : H' a = none) : H a = none := by
  cases e : H a with
  | none => rfl
  | some o => rw [s _ _ e] at h; cases h
theorem row_make_ok {P : Program} {mg : Str → Option Value} (T : Txt P K mg) {ps : List (Nat × Int)} {l : List Nat} {hs : List Int} {b : Addr} {H : Hp} {Q : VK} {E : XK} (hn : ps.length ≤ 10000) (hl : l = ps.map Prod.fst) (hh : hs = ps.map Prod.snd) (ok : Okp ps) (hb : H b = some (.lst (hs.map V.int)))
    (h : ∀ y D H', Same H H' → H y = none → H D = none → RowAt K H' y D ps → Q (.ref y) H') : MkG (He.ga K "Row") (sp_Row_init K) (List.drop 2 [.str "", .non]) [.str (tx l), .ref b] H Q E := by
  subst hl hh
  intro y dx hy hdx hne
  have s0 : Same H (upd (upd H dx (.own y)) y (.ins (He.ga K "Row") dx [])) := made_same hy hdx
  refine row_init_ok T (by rw [List.length_map]; exact hn) (by rw [List.length_map]; exact hn) upd_same (.inl ⟨b, rfl, s0 _ _ hb⟩) ?_ ?_ ?_ ?_
  · intro _ _ _ D H1 k1 hD hy1 pr
    rw [zip_ps] at pr
    exact ⟨rfl, h y D H1 (keep_same hy hdx k1) hy (s0.free hD) ⟨⟨dx, hy1⟩, pr⟩⟩
  · intro c; have := ok.fo; omega
  · intro _ c; exact absurd (by rw [List.length_map, List.length_map]) c
  · intro _ _ z c; rw [ok.bad] at c; cases c
theorem Prs.set {H : Hp} {D T : Addr} {ps : List (Nat × Int)} {as : List Addr} {i : Nat} {c : Nat} {z : Int} (hD : H D = some (.lst (as.map V.ref))) (hl : as.length = ps.length) (hp : ∀ (j : Nat) (a : Addr) (p : Nat × Int), as[j]? = some a → ps[j]? = some p → H a = some (.tup [.str (tx [p.1]), .int p.2]))
    (hT : H T = some (.tup [.str (tx [c]), .int z])) : Prs (upd H D (.lst ((as.map V.ref).set i (.ref T)))) D (ps.set i (c, z)) := by
  refine ⟨as.set i T, by rw [upd_same, List.map_set], by rw [List.length_set, List.length_set, hl], fun j a p e1 e2 => ?_⟩
  have key : H a = some (.tup [.str (tx [p.1]), .int p.2]) := by
    rw [List.getElem?_set] at e1 e2
    by_cases hj : i = j
    · rw [if_pos hj] at e1 e2
      by_cases hlt : i < as.length
      · rw [if_pos (by omega)] at e1
        rw [if_pos (by omega)] at e2
        cases e1
        cases e2
        exact hT
      · rw [if_neg (by omega)] at e1
        cases e1
    · rw [if_neg hj] at e1 e2
      exact hp j a p e1 e2
  rw [upd_ne (fun q => by rw [q, hD] at key; cases key)]
  exact key
theorem Prs.keepD {H H' : Hp} {D e : Addr} {ps : List (Nat × Int)} (h : Prs H D ps) (k : Keep e H H') (n : D ≠ e) (he : DrL H e) : Prs H' D ps := let ⟨_, _, q⟩ := he; h.keep k n q
theorem pick_one {z : Str} {q : Int} {H : Hp} {Q : VK} (hz : 0 < z.length) (hz2 : z.length ≤ 1000) (h0 : 0 ≤ q) (h1 : q < z.length) (h : ∀ c, c ∈ z.cps.toList → Q (.str (tx [c])) H) : rIx K (.str z) (.int q) H Q := by
  obtain ⟨n, rfl⟩ : ∃ n : Nat, q = n := ⟨q.toNat, by omega⟩
  have hn : n < z.cps.toList.length := by
    have : z.cps.toList.length = z.length := by simp [Str.length]
    omega
  exact ixA_str (small2 (by omega)) (atI_nat (List.getElem?_eq_getElem hn)) (h _ (List.getElem_mem hn))
theorem Prs.push {H : Hp} {M T : Addr} {ps : List (Nat × Int)} {c : Nat} {z : Int} {as : List Addr} (hM : H M = some (.lst (as.map V.ref))) (hl : as.length = ps.length) (hp : ∀ (j : Nat) (a : Addr) (p : Nat × Int), as[j]? = some a → ps[j]? = some p → H a = some (.tup [.str (tx [p.1]), .int p.2]))
    (hT : H T = some (.tup [.str (tx [c]), .int z])) : Prs (upd H M (.lst (as.map V.ref ++ [.ref T]))) M (ps ++ [(c, z)]) := by
  refine ⟨as ++ [T], by rw [upd_same, List.map_append]; rfl, by rw [List.length_append, List.length_append, hl]; rfl, fun j a p e1 e2 => ?_⟩
  have key : H a = some (.tup [.str (tx [p.1]), .int p.2]) := by
    by_cases hj : j < as.length
    · rw [List.getElem?_append_left hj] at e1
      rw [List.getElem?_append_left (by omega)] at e2
      exact hp j a p e1 e2
    · have hj2 : j = as.length := by
        have := (List.getElem?_eq_some_iff.mp e1).1
        rw [List.length_append, List.length_singleton] at this
        omega
      subst hj2
      rw [List.getElem?_append_right (Nat.le_refl _), Nat.sub_self] at e1
      rw [List.getElem?_append_right (by omega), show as.length - ps.length = 0 by omega] at e2
      cases e1
      cases e2
      exact hT
  rw [upd_ne (fun q => by rw [q, hM] at key; cases key)]
  exact key
theorem Prs.rep {H : Hp} {p : Addr} {ps : List (Nat × Int)} {as : List Addr} (n : Nat) (hl : as.length = ps.length) (hp : ∀ (j : Nat) (a : Addr) (p : Nat × Int), as[j]? = some a → ps[j]? = some p → H a = some (.tup [.str (tx [p.1]), .int p.2])) (hn : H p = none) :
    Prs (upd H p (.lst ((List.replicate n (as.map V.ref)).flatten))) p (List.replicate n ps).flatten := by
  have e : (List.replicate n (as.map V.ref)).flatten = ((List.replicate n as).flatten).map V.ref := by rw [List.map_flatten, List.map_replicate]
  have main : ∀ n : Nat, ((List.replicate n as).flatten).length = ((List.replicate n ps).flatten).length ∧ ∀ (j : Nat) (a : Addr) (q : Nat × Int), ((List.replicate n as).flatten)[j]? = some a → ((List.replicate n ps).flatten)[j]? = some q → H a = some (.tup [.str (tx [q.1]), .int q.2]) := by
    intro n
    induction n with
    | zero => exact ⟨rfl, fun j a q e1 => by simp at e1⟩
    | succ n ih =>
      refine ⟨by simp [hl], fun j a q e1 e2 => ?_⟩
      rw [List.replicate_succ, List.flatten_cons] at e1 e2
      by_cases hj : j < as.length
      · rw [List.getElem?_append_left hj] at e1
        rw [List.getElem?_append_left (by omega)] at e2
        exact hp j a q e1 e2
      · rw [List.getElem?_append_right (by omega)] at e1
        rw [List.getElem?_append_right (by omega), ← hl] at e2
        exact ih.2 _ a q e1 e2
  refine ⟨(List.replicate n as).flatten, by rw [upd_same, e], (main n).1, fun j a q e1 e2 => ?_⟩
  have key := (main n).2 j a q e1 e2
  rw [upd_ne (ne_of_none key hn)]
  exact key
theorem row_of_ok {d : Addr} {m : Int} {H : Hp} {Q : VK} {E : XK} (h0 : 0 ≤ m) (h1 : m ≤ 12) (hd : DrL H d)
    (h : ∀ (ps : List (Nat × Int)) M H', Okp ps → ps.length ≤ 144 → H M = none → M ≠ d → Prs H' M ps → Keep d H H' → DrL H' d → Q (.ref M) H') : sp_law_row_of K [.ref d, .int m] H Q E := by
  refine ⟨rfl, ?_⟩
  unfold t_law_row_of
  walk_at "go"
  refine pick_ok (by omega) hd fun f H1 f0 f1 k1 d1 => ?_
  walk_at "go"
  refine pick_ok (by omega) d1 fun r H2 r0 r1 k2 d2 => ?_
  walk_at "go"
  refine ⟨r, rfl, by omega, by omega, fun L hL => ?_⟩
  have hLd : L ≠ d := fun e => by
    obtain ⟨ds, _, e2⟩ := d2
    rw [e] at hL
    rw [hL] at e2
    cases e2
  refine lcR (n := r) (fun i H3 => ∃ (ps : List (Nat × Int)), ps.length = i ∧ Okp ps ∧ Prs H3 L ps ∧ Keep d H2 H3 ∧ DrL H3 d) ⟨[], rfl, fun p hp => absurd hp (by simp), ⟨[], upd_same, rfl, fun j a p e => by simp at e⟩, Keep.new hL, d2.same (Same.new hL)⟩ ?_ ?_
  · rintro i H3 hi ⟨ps, hl, ok, hP, k3, d3⟩
    walk_at "go"
    refine ⟨rfl, ?_⟩
    walk_at "go"
    refine pick_ok (by omega) d3 fun q H4 q0 q1 k4 d4 => ?_
    refine pick_one (by decide) (by decide) q0 (by show q < 26; omega) fun c hc => ?_
    walk_at "go"
    refine pick_ok (by omega) d4 fun z H5 z0 z1 k5 d5 => ?_
    walk_at "go"
    intro Tp hT
    obtain ⟨ds5, dl5, de5⟩ := id d5
    have hP5 : Prs H5 L ps := (hP.keepD k4 hLd d3).keepD k5 hLd d4
    obtain ⟨as, hL5, hl5, hp5⟩ := hP5
    have sT := Same.new (o := .tup [.str (tx [c]), .int z]) hT
    refine ⟨as.map V.ref, sT _ _ hL5, by rw [List.length_map, sizeLine_eq]; omega, ps ++ [(c, z)], by rw [List.length_append, hl]; rfl, ok.app fun p hp => ?_, ?_, ?_, ?_⟩
    · rw [List.mem_singleton.mp hp]
      exact ⟨hc, z0, by show z ≤ 9; omega⟩
    · exact Prs.push (sT _ _ hL5) hl5 (fun j a p e1 e2 => sT _ _ (hp5 j a p e1 e2)) upd_same
    · intro b o n e
      rw [upd_ne (fun e2 => by rw [e2, hL] at e; cases e)]
      exact sT _ _ (k5 _ _ n (k4 _ _ n (k3 _ _ n e)))
    · exact ⟨ds5, dl5, by rw [upd_ne (Ne.symm hLd)]; exact sT _ _ de5⟩
  · rintro H3 ⟨ps, hl, ok, hP, k3, d3⟩
    walk_at "go"
    refine pick_ok (by omega) d3 fun q H4 q0 q1 k4 d4 => ?_
    have hP4 : Prs H4 L ps := hP.keepD k4 hLd d3
    have k14 := ((k1.trans k2).trans k3).trans k4
    walk_at "go"
    refine rd_ite (fun c => ?_) (fun c => ?_)
    · walk_at "go"
      refine pick_ok (by omega) d4 fun t H5 t0 t1 k5 d5 => ?_
      obtain ⟨as, hL5, hl5, hp5⟩ := hP4.keepD k5 hLd d4
      walk_at "go"
      have hm : as.length * (1 + t).toNat ≤ 12 * 12 := Nat.mul_le_mul (by omega) (by omega)
      refine .inr (.inl ⟨L, _, _, rfl, rfl, hL5, by omega, by omega, by rw [List.length_map, sizeLine_eq]; omega, fun p hp => ?_⟩)
      walk_at "go"
      obtain ⟨ds5, dl5, de5⟩ := id d5
      have pd : p ≠ d := fun e => by rw [e] at hp; rw [hp] at de5; cases de5
      refine h (List.replicate (1 + t).toNat ps).flatten p _ (fun q hq => ?_) ?_ (((k14.trans k5)).free pd hp) pd (Prs.rep (1 + t).toNat hl5 hp5 hp) (fun b o n e => ?_) (d5.same (Same.new hp))
      · obtain ⟨l, hl2, hq2⟩ := List.mem_flatten.mp hq
        rw [(List.mem_replicate.mp hl2).2] at hq2
        exact ok q hq2
      · rw [List.length_flatten, List.map_replicate, List.sum_replicate_nat, Nat.mul_comm, ← hl5]
        omega
      · have e5 := k5 _ _ n (k14 _ _ n e)
        rw [upd_ne (ne_of_none e5 hp)]
        exact e5
    · walk_at "go"
      exact h ps L H4 ok (by omega) ((k1.trans k2).free hLd hL) hLd hP4 k14 d4
/-! comprehensions over a list that only make new things -/
/-- a comprehension over the list x -/
def LcG (K : Frg) (x : V) (g : TG) (te : TE) (vs : List Nat) (σ : L2.St) (H1 : Hp) (Q : VK) : Prop := ∃ a, x = .ref a ∧ (∃ xs, SqL K H1 a xs) ∧
    ∀ D, H1 D = none → ∃ W : Nat → Nat → Hp → Prop, (∃ m, W 0 m (upd H1 D (.lst []))) ∧ ∀ i m H, W i m H →
      ((Itl K a).stop i H ∧ Q (.ref D) H) ∨ ((Itl K a).go i H ∧ ∃ Nx : Hp → Prop, (∀ H', Nx H' → ∃ m', m' < m ∧ W (i + 1) m' H') ∧ ∀ x H', (Itl K a).yld i H x H' → g x (wipe σ vs) H' fun σ2 H2 => wipe σ2 vs = wipe σ vs ∧ tYes σ2 H2 fun b H3 =>
        if b = true then te σ2 H3 fun y H4 => ∃ acc, H4 D = some (.lst acc) ∧ acc.length < sizeLine ∧ Nx (upd H4 D (.lst (acc ++ [y]))) else Nx H3)
theorem rd_lcL {tl : TE} {g : TG} {te : TE} {vs : List Nat} {σ : L2.St} {H : Hp} {Q : VK} (h : tl σ H fun x H1 => LcG K x g te vs σ H1 Q) : tLc (iList K tl) g tYes te vs σ H Q := h
local macro_rules | `(tactic| walk_at "rd") => `(tactic| (with_reducible refine rd_lcL ?_))
theorem yes_eq {te : TE} {w : L2.St → Prop} {C : VK} {N : Hp → Prop} : (fun (σ2 : L2.St) (H3 : Hp) => w σ2 ∧ te σ2 H3 C) = fun σ2 H3 => w σ2 ∧ tYes σ2 H3 fun b H4 => if b = true then te σ2 H4 C else N H4 := rfl
theorem lcV {a : Addr} {xs : List V} (ys : List V) {g : TG} {te : TE} {vs : List Nat} {σ : L2.St} {H1 : Hp} {Q : VK} (hS : SqL K H1 a xs) (hl : ys.length = xs.length) (hz : xs.length ≤ 100000)
    (hs : ∀ (i : Nat) (x y : V) (H2 : Hp) (C : VK), Same H1 H2 → xs[i]? = some x → ys[i]? = some y → (∀ H4, Same H2 H4 → C y H4) → g x (wipe σ vs) H2 fun σ2 H3 => wipe σ2 vs = wipe σ vs ∧ te σ2 H3 C)
    (hd : ∀ D H', Same H1 H' → H1 D = none → H' D = some (.lst ys) → Q (.ref D) H') :
    LcG K (.ref a) g te vs σ H1 Q := by
  refine ⟨a, rfl, ⟨_, hS⟩, fun D hD => ?_⟩
  refine lc_it (walk_list (K := K) (a := a) (xs := xs)) (fun i H2 => Same H1 H2 ∧ H2 D = some (.lst (ys.take i))) ⟨Same.new hD, by rw [upd_same]; rfl⟩ (fun i H2 _ q => q.1.seq hS) ?_ ?_
  · rintro i x H2 H3 hi ⟨s2, eD⟩ ⟨rfl, hx⟩
    have hy : ys[i]? = some ys[i] := List.getElem?_eq_getElem (by omega)
    refine (yes_eq ▸ hs i x _ H3 (fun y H4 => ∃ acc, H4 D = some (.lst acc) ∧ acc.length < sizeLine ∧ (fun H2 => Same H1 H2 ∧ H2 D = some (.lst (ys.take (i + 1)))) (upd H4 D (.lst (acc ++ [y])))) s2 hx hy ?_)
    intro H5 s5
    refine ⟨_, s5 _ _ eD, by rw [List.length_take, sizeLine_eq]; omega, fun b o e => ?_, ?_⟩
    · rw [upd_ne (ne_of_none e hD)]
      exact s5 _ _ (s2 _ _ e)
    · rw [upd_same, List.take_succ_eq_append_getElem (by omega)]
  · rintro H2 ⟨s2, eD⟩
    rw [← hl, List.take_length] at eD
    exact hd D H2 s2 hD eD
theorem Prs.mapc {H : Hp} {M : Addr} {ps : List (Nat × Int)} (h : Prs H M ps) : ∃ as : List Addr, H M = some (.lst (as.map V.ref)) ∧ as.length = ps.length ∧ ∀ (j : Nat) (x : V) (p : Nat × Int), (as.map V.ref)[j]? = some x → ps[j]? = some p → ∃ a, x = .ref a ∧ H a = some (.tup [.str (tx [p.1]), .int p.2]) := by
  obtain ⟨as, hM, hl, hp⟩ := h
  refine ⟨as, hM, hl, fun j x p e1 e2 => ?_⟩
  obtain ⟨a, p', ea, ep, rfl⟩ := prs_at hl e1
  rw [e2] at ep
  cases ep
  exact ⟨a, rfl, hp j a p ea e2⟩
theorem var_set {σ : L2.St} {j : Nat} {v : V} {H : Hp} {Q : VK} (hj : j < σ.length) (h : Q v H) : tVar j ((σ.set j none).set j (some v)) H Q := ⟨v, by rw [List.getElem?_set_self (by rw [List.length_set]; exact hj)], h⟩
/-- [p[n] for p in ps] -/
theorem comp_ix {σ : L2.St} {M : Addr} {ps : List (Nat × Int)} {j : Nat} {H : Hp} {Q : VK} (n : Nat) (f : Nat × Int → V) (hf : ∀ p : Nat × Int, [V.str (tx [p.1]), V.int p.2][n]? = some (f p)) (hj : j < σ.length) (hM : Prs H M ps) (hn : ps.length ≤ 10000)
    (h : ∀ D H', Same H H' → H D = none → H' D = some (.lst (ps.map f)) → Q (.ref D) H') : LcG K (.ref M) (gName j) (tOp (rIx K) (tVar j) (tC (.int n))) [j] σ H Q := by
  obtain ⟨as, eM, hl, hp⟩ := hM.mapc
  refine lcV (ps.map f) (.of eM) (by simp [hl]) (by simp; omega) ?_ h
  intro i x y H2 C s2 hx hy hC
  rw [List.getElem?_map] at hy
  obtain ⟨p, hp2, rfl⟩ := Option.map_eq_some_iff.mp hy
  obtain ⟨a, rfl, ea⟩ := hp i x p hx hp2
  show (wipe ((σ.set j none).set j (some (.ref a))) [j] = wipe σ [j] ∧ _)
  refine ⟨by show ((σ.set j none).set j (some (.ref a))).set j none = σ.set j none; rw [List.set_set, List.set_set], ?_⟩
  refine rd_op (var_set hj ?_)
  exact ixA_tup (SqT.of (s2 _ _ ea)) (atI_nat (hf p)) (hC _ (Same.refl _))
theorem comp_fst {σ : L2.St} {M : Addr} {ps : List (Nat × Int)} {j : Nat} {H : Hp} {Q : VK} (hj : j < σ.length) (hM : Prs H M ps) (hn : ps.length ≤ 10000)
    (h : ∀ D H', Same H H' → H D = none → H' D = some (.lst ((ps.map Prod.fst).map fun c => V.str (tx [c]))) → Q (.ref D) H') : LcG K (.ref M) (gName j) (tOp (rIx K) (tVar j) (tC (.int 0))) [j] σ H Q :=
  comp_ix 0 (fun p => .str (tx [p.1])) (fun _ => rfl) hj hM hn fun D H' s f e => h D H' s f (by rw [e, List.map_map]; rfl)
theorem comp_snd {σ : L2.St} {M : Addr} {ps : List (Nat × Int)} {j : Nat} {H : Hp} {Q : VK} (hj : j < σ.length) (hM : Prs H M ps) (hn : ps.length ≤ 10000)
    (h : ∀ D H', Same H H' → H D = none → H' D = some (.lst ((ps.map Prod.snd).map V.int)) → Q (.ref D) H') : LcG K (.ref M) (gName j) (tOp (rIx K) (tVar j) (tC (.int 1))) [j] σ H Q :=
  comp_ix 1 (fun p => .int p.2) (fun _ => rfl) hj hM hn fun D H' s f e => h D H' s f (by rw [e, List.map_map]; rfl)
theorem as_row_ok {P : Program} {mg : Str → Option Value} (T : Txt P K mg) {M : Addr} {ps : List (Nat × Int)} {H : Hp} {Q : VK} {E : XK} (hn : ps.length ≤ 10000) (hM : Prs H M ps) (ok : Okp ps)
    (h : ∀ y D H', Same H H' → H y = none → H D = none → RowAt K H' y D ps → Q (.ref y) H') : sp_law_as_row K [.ref M] H Q E := by
  refine ⟨rfl, ?_⟩
  unfold t_law_as_row
  walk_at "go"
  refine ⟨⟨_, rfl⟩, ?_⟩
  walk_at "go"
  refine comp_fst (Nat.le_of_ble_eq_true rfl) hM hn fun L1 H1 s1 f1 e1 => ?_
  refine join_ok e1 (by rw [List.length_map]; exact hn) ?_
  walk_at "go"
  refine comp_snd (Nat.le_of_ble_eq_true rfl) (hM.same s1) hn fun L2 H2 s2 f2 e2 => ?_
  walk_at "go"
  have s := s1.trans s2
  exact row_make_ok T hn rfl rfl ok e2 fun y D H' s3 fy fD r => h y D H' (s.trans s3) (s.free fy) (s.free fD) r
/-- lists of pairs side by side, repeated, cut -/
theorem prs_cat {M N : Addr} {ps qs : List (Nat × Int)} {H : Hp} {Q : VK} (hM : Prs H M ps) (hN : Prs H N qs) (hn : ps.length + qs.length ≤ 10000) (h : ∀ p H', Same H H' → H p = none → Prs H' p (ps ++ qs) → Q (.ref p) H') : rAddA (.ref M) (.ref N) H Q := by
  obtain ⟨as, eM, la, ha⟩ := hM
  obtain ⟨bs, eN, lb, hb⟩ := hN
  refine addA_lst eM eN (by rw [List.length_map, List.length_map, sizeLine_eq]; omega) fun p hp => h p _ (Same.new hp) hp ⟨as ++ bs, by rw [upd_same, List.map_append], by simp [la, lb], fun j a q e1 e2 => ?_⟩
  have key : H a = some (.tup [.str (tx [q.1]), .int q.2]) := by
    by_cases hj : j < as.length
    · rw [List.getElem?_append_left hj] at e1
      rw [List.getElem?_append_left (by omega)] at e2
      exact ha j a q e1 e2
    · rw [List.getElem?_append_right (by omega)] at e1
      rw [List.getElem?_append_right (by omega), ← la] at e2
      exact hb _ a q e1 e2
  rw [upd_ne (ne_of_none key hp)]
  exact key
theorem cutV_none (xs : List V) (i : Nat) (hi : i ≤ xs.length) : cutV xs none (some (i : Int)) = xs.take i := by
  unfold cutV
  rw [sIx_none, sIx_nat _ _ _ hi]
  rfl
theorem cutV_from (xs : List V) (i : Nat) (hi : i ≤ xs.length) : cutV xs (some (i : Int)) none = xs.drop i := by
  unfold cutV
  rw [sIx_none, sIx_nat _ _ _ hi, List.take_of_length_le (by rw [List.length_drop]; exact Nat.le_refl _)]
theorem prs_take {M : Addr} {ps : List (Nat × Int)} {i : Nat} {H : Hp} {Q : VK} (hM : Prs H M ps) (hi : i ≤ ps.length) (h : ∀ p H', Same H H' → H p = none → Prs H' p (ps.take i) → Q (.ref p) H') : rSlA K (.ref M) none (some (i : Int)) H Q := by
  obtain ⟨as, eM, la, ha⟩ := hM
  refine slA_lst (.of eM) fun p hp => ?_
  rw [cutV_none _ _ (by rw [List.length_map]; omega)]
  refine h p _ (Same.new hp) hp ⟨as.take i, by rw [upd_same, List.map_take], by simp [la], fun j a q e1 e2 => ?_⟩
  rw [List.getElem?_take] at e1 e2
  split at e1
  · rename_i c
    rw [if_pos c] at e2
    have key := ha j a q e1 e2
    rw [upd_ne (ne_of_none key hp)]
    exact key
  · cases e1
theorem prs_drop {M : Addr} {ps : List (Nat × Int)} {i : Nat} {H : Hp} {Q : VK} (hM : Prs H M ps) (hi : i ≤ ps.length) (h : ∀ p H', Same H H' → H p = none → Prs H' p (ps.drop i) → Q (.ref p) H') : rSlA K (.ref M) (some (i : Int)) none H Q := by
  obtain ⟨as, eM, la, ha⟩ := hM
  refine slA_lst (.of eM) fun p hp => ?_
  rw [cutV_from _ _ (by rw [List.length_map]; omega)]
  refine h p _ (Same.new hp) hp ⟨as.drop i, by rw [upd_same, List.map_drop], by simp [la], fun j a q e1 e2 => ?_⟩
  rw [List.getElem?_drop] at e1 e2
  have key := ha _ a q e1 e2
  rw [upd_ne (ne_of_none key hp)]
  exact key
theorem prs_list {M : Addr} {ps : List (Nat × Int)} {H : Hp} {Q : VK} (hM : Prs H M ps) (h : ∀ p H', Same H H' → H p = none → Prs H' p ps → Q (.ref p) H') : rListA K [.ref M] H Q := by
  obtain ⟨as, eM, la, ha⟩ := hM
  refine ⟨M, _, rfl, .inl (.of eM), fun p hp => h p _ (Same.new hp) hp ⟨as, upd_same, la, fun j a q e1 e2 => ?_⟩⟩
  have key := ha j a q e1 e2
  rw [upd_ne (ne_of_none key hp)]
  exact key
/-! lists of pairs as data -/
def pd (p : Nat × Int) : PyData := .tuple [.str (tx [p.1]), .int p.2]
theorem psData {H : Hp} : ∀ (as : List Addr) (ps : List (Nat × Int)), as.length = ps.length → (∀ (j : Nat) (a : Addr) (p : Nat × Int), as[j]? = some a → ps[j]? = some p → H a = some (.tup [.str (tx [p.1]), .int p.2])) → DpAll K H (as.map V.ref) (ps.map pd)
  | [], [], _, _ => .nil
  | [], _ :: _, h, _ => by cases h
  | _ :: _, [], h, _ => by cases h
  | a :: as, p :: ps, h, hp => .cons (pairData (hp 0 a p rfl rfl)) (psData as ps (by simpa using h) fun j b q e1 e2 => hp (j + 1) b q e1 e2)
theorem Prs.data {H : Hp} {M : Addr} {ps : List (Nat × Int)} (h : Prs H M ps) : Dp K H (.ref M) (.list (ps.map pd)) := let ⟨as, e, l, hp⟩ := h; .lst (SqL.of e) (psData as ps l hp)
theorem canLay_ps : ∀ ps : List (Nat × Int), (∀ p ∈ ps, p.1 ∈ letters) → PyData.canLayAll0 (ps.map pd) = true
  | [], _ => by simp [PyData.canLayAll0]
  | p :: r, h => by
    have h1 := strOk_one (h p List.mem_cons_self)
    have h2 := canLay_ps r fun q hq => h q (List.mem_cons_of_mem _ hq)
    simp [PyData.canLayAll0, pd, PyData.canLay0, h1, h2]
theorem depth_ps : ∀ ps : List (Nat × Int), PyData.depthAll (ps.map pd) ≤ 1
  | [] => by simp [PyData.depthAll]
  | p :: r => by
    have := depth_ps r
    simp [PyData.depthAll, pd, PyData.depth]
    omega
theorem shaped_ps {ps : List (Nat × Int)} (h : ∀ p ∈ ps, p.1 ∈ letters) : SeqAt.shaped (.list (ps.map pd)) = true := by
  have h1 := canLay_ps ps h
  have h2 := depth_ps ps
  simp [SeqAt.shaped, PyData.canLay0, h1, PyData.depth]
  omega
theorem eqvAll_ps : ∀ ps qs : List (Nat × Int), PyData.eqvAll (ps.map pd) (qs.map pd) = decide (ps = qs)
  | [], [] => by simp [PyData.eqvAll]
  | [], _ :: _ => by simp [PyData.eqvAll]
  | _ :: _, [] => by simp [PyData.eqvAll]
  | p :: ps, q :: qs => by
    have h := eqvAll_ps ps qs
    have h2 : PyData.eqv (pd p) (pd q) = decide (p = q) := by
      unfold pd
      rw [eqv_pair]
      apply decide_eq_decide.mpr
      rw [tx_inj]
      obtain ⟨a, b⟩ := p
      obtain ⟨c, d⟩ := q
      simp
    simp [PyData.eqvAll, h, h2]
theorem eqv_ps (ps qs : List (Nat × Int)) : PyData.eqv (.list (ps.map pd)) (.list (qs.map pd)) = decide (ps = qs) := by
  simp only [PyData.eqv]
  exact eqvAll_ps ps qs
theorem eq_ps {M N : Addr} {ps qs : List (Nat × Int)} {H : Hp} {Q : VK} (hM : Prs H M ps) (hN : Prs H N qs) (h1 : ∀ p ∈ ps, p.1 ∈ letters) (h2 : ∀ p ∈ qs, p.1 ∈ letters) (h : Q (.bl (decide (ps = qs))) H) : rEqA K (.ref M) (.ref N) H Q :=
  eqA_data hM.data hN.data (shaped_ps h1) (shaped_ps h2) (eqv_ps ps qs) h
theorem ne_ps {M N : Addr} {ps qs : List (Nat × Int)} {H : Hp} {Q : VK} (hM : Prs H M ps) (hN : Prs H N qs) (h1 : ∀ p ∈ ps, p.1 ∈ letters) (h2 : ∀ p ∈ qs, p.1 ∈ letters) (h : Q (.bl (!decide (ps = qs))) H) : rNeA K (.ref M) (.ref N) H Q :=
  neA_data hM.data hN.data (shaped_ps h1) (shaped_ps h2) (eqv_ps ps qs) h
theorem Prs.nil {H : Hp} {p : Addr} (h : H p = some (.lst [])) : Prs H p [] := ⟨[], h, rfl, fun j a q e => by simp at e⟩
/-! slices whose ends may lie beyond the end -/
theorem drop_min {α : Type} (l : List α) (k n : Nat) : (l.drop (min k l.length)).take (min (k + n) l.length - min k l.length) = (l.drop k).take n := by
  by_cases h : k ≤ l.length
  · rw [Nat.min_eq_left h]
    by_cases h2 : k + n ≤ l.length
    · rw [Nat.min_eq_left h2, Nat.add_sub_cancel_left]
    · rw [Nat.min_eq_right (by omega)]
      rw [List.take_of_length_le (by rw [List.length_drop]; exact Nat.le_refl _), List.take_of_length_le (by rw [List.length_drop]; omega)]
  · rw [show min k l.length = l.length by omega, List.drop_of_length_le (Nat.le_refl l.length), List.drop_of_length_le (show l.length ≤ k by omega)]
    simp
theorem cutS_any (l : List Nat) (k n : Nat) : cutS (tx l) (some (k : Int)) (some ((k : Int) + (n : Int))) = tx ((l.drop k).take n) := by
  unfold cutS
  rw [tx_toList, tx_len, show (k : Int) + (n : Int) = ((k + n : Nat) : Int) by omega, HT.sIx_nat, HT.sIx_nat, drop_min]
  rfl
theorem cutV_any (xs : List V) (k n : Nat) : cutV xs (some (k : Int)) (some ((k : Int) + (n : Int))) = (xs.drop k).take n := by
  unfold cutV
  rw [show (k : Int) + (n : Int) = ((k + n : Nat) : Int) by omega, HT.sIx_nat, HT.sIx_nat, drop_min]
theorem odd_ok {d : Addr} {H : Hp} {Q : VK} {E : XK} (hd : DrL H d) (h : ∀ (c : Nat) H', Keep d H H' → DrL H' d → Q (.str (tx [c])) H') : sp_law_odd_sign K [.ref d] H Q E := by
  refine ⟨rfl, ?_⟩
  unfold t_law_odd_sign
  walk_at "go"
  refine lenA_str (small2 (by decide)) ?_
  walk_at "go"
  refine pick_ok (by decide) hd fun r H1 r0 r1 k1 d1 => ?_
  obtain ⟨n, rfl⟩ : ∃ n : Nat, r = n := ⟨r.toNat, by omega⟩
  generalize hz : (Str.ofString " !\"#$&'()*+,-./0123456789:;<=>?@ABCDEFGHIJKLMNOPQRSTUVWXYZ[\\]^_`{|}~\n\t") = z at r1 ⊢
  have hn : n < z.cps.toList.length := by
    have : z.cps.toList.length = z.length := by simp [Str.length]
    omega
  exact ixA_str (by rw [← hz]; exact small2 (by decide)) (atI_nat (List.getElem?_eq_getElem hn)) (h _ H1 k1 d1)
/-! comparisons of rows -/
theorem row_eq_ok {P : Program} {mg : Str → Option Value} (T : Txt P K mg) {y D z F : Addr} {ps qs : List (Nat × Int)} {H : Hp} {Q : VK} {E : XK} (okp : ∀ p ∈ ps, p.1 ∈ letters) (okq : ∀ p ∈ qs, p.1 ∈ letters) (h1 : RowAt K H y D ps) (h2 : RowAt K H z F qs) (h : Q (.bl (decide (ps = qs))) H) : sp_Row_eq K [.ref y, .ref z] H Q E := by
  refine ⟨rfl, ?_⟩
  unfold t_Row_eq
  obtain ⟨⟨dx, ey⟩, hD⟩ := h1
  obtain ⟨⟨dz, ez⟩, hF⟩ := h2
  walk_at "sq"
  walk_at "st"
  refine isi_go (.own _) (Rz.tyX_own T.ty_Row ez) T.ty_Row.me ?_
  walk_at "st"
  refine ⟨y, _, dx, _, _, rfl, ey, T.c_Row, T.n_Row_pairs, look_pairs _, ?_⟩
  walk_at "st"
  refine ⟨z, _, dz, _, _, rfl, ez, T.c_Row, T.n_Row_pairs, look_pairs _, ?_⟩
  walk_at "st"
  exact eq_ps hD hF okp okq h
theorem alike_ps : ∀ ps qs : List (Nat × Int), PySem.W.alikeAll (ps.map pd) (qs.map pd) = true
  | [], _ => by simp [PySem.W.alikeAll]
  | p :: r, [] => by simp [PySem.W.alikeAll]
  | p :: r, q :: t => by
    have := alike_ps r t
    simp [PySem.W.alikeAll, pd, PySem.W.alike, this]
def ltP (ps qs : List (Nat × Int)) : Bool := PySem.W.dataLt (.list (ps.map pd)) (.list (qs.map pd))
theorem lt_ps {M N : Addr} {ps qs : List (Nat × Int)} {H : Hp} {Q : VK} (hM : Prs H M ps) (hN : Prs H N qs) (h : Q (.bl (ltP ps qs)) H) : rLtD K (.ref M) (.ref N) H Q :=
  ⟨_, _, hM.data, hN.data, by simp only [PySem.W.alike]; exact alike_ps ps qs, (fun z => nomatch z), by have := depth_ps ps; simp only [PyData.depth]; omega, h⟩
theorem row_lt_ok {P : Program} {mg : Str → Option Value} (T : Txt P K mg) {y D z F : Addr} {ps qs : List (Nat × Int)} {H : Hp} {Q : VK} {E : XK} (h1 : RowAt K H y D ps) (h2 : RowAt K H z F qs) (h : Q (.bl (ltP ps qs)) H) : sp_Row_lt K [.ref y, .ref z] H Q E := by
  refine ⟨rfl, ?_⟩
  unfold t_Row_lt
  obtain ⟨⟨dx, ey⟩, hD⟩ := h1
  obtain ⟨⟨dz, ez⟩, hF⟩ := h2
  walk_at "sq"
  walk_at "st"
  refine isi_go (.own _) (Rz.tyX_own T.ty_Row ez) T.ty_Row.me ?_
  walk_at "st"
  refine ⟨y, _, dx, _, _, rfl, ey, T.c_Row, T.n_Row_pairs, look_pairs _, ?_⟩
  walk_at "st"
  refine ⟨z, _, dz, _, _, rfl, ez, T.c_Row, T.n_Row_pairs, look_pairs _, ?_⟩
  walk_at "st"
  exact lt_ps hD hF h
theorem spn_str {P : Program} {mg : Str → Option Value} (T : Txt P K mg) {y : Addr} {z : Str} {H : Hp} {Q : Hp → Prop} (h : Q H) : spn_Row_eq K [.ref y, .str z] H Q := by
  refine ⟨rfl, ?_⟩
  walk_at "st"
  refine isi_go (.own _) (.base (.str _)) T.i_str_Row ?_
  walk_at "st"
  exact ⟨rfl, h⟩
theorem spn_lst {P : Program} {mg : Str → Option Value} (T : Txt P K mg) {y l : Addr} {xs : List V} {H : Hp} {Q : Hp → Prop} (el : H l = some (.lst xs)) (h : Q H) : spn_Row_eq K [.ref y, .ref l] H Q := by
  refine ⟨rfl, ?_⟩
  walk_at "st"
  refine isi_go (.own _) (.base (.lst el)) T.i_list_Row ?_
  walk_at "st"
  exact ⟨rfl, h⟩
/-- == and != of rows -/
theorem cmp_rows {P : Program} {mg : Str → Option Value} (T : Txt P K mg) {neg : Bool} {y D z F : Addr} {ps qs : List (Nat × Int)} {H : Hp} {Q : VK} (okp : ∀ p ∈ ps, p.1 ∈ letters) (okq : ∀ p ∈ qs, p.1 ∈ letters) (h1 : RowAt K H y D ps) (h2 : RowAt K H z F qs) (h : Q (.bl (decide (ps = qs) != neg)) H) :
    rCmpO neg (He.ga K "Row") (sp_Row_eq K) (spn_Row_eq K) (.ref y) (.ref z) H Q := by
  obtain ⟨dx, ey⟩ := id h1.1
  obtain ⟨dz, ez⟩ := id h2.1
  exact ⟨y, dx, _, rfl, ey, .inl ⟨z, dz, _, rfl, ez, row_eq_ok T okp okq h1 h2 ⟨_, rfl, h⟩⟩⟩
theorem cmp_str {P : Program} {mg : Str → Option Value} (T : Txt P K mg) {neg : Bool} {y D : Addr} {z : Str} {ps : List (Nat × Int)} {H : Hp} {Q : VK} (h1 : RowAt K H y D ps) (h : Q (.bl neg) H) : rCmpO neg (He.ga K "Row") (sp_Row_eq K) (spn_Row_eq K) (.ref y) (.str z) H Q := by
  obtain ⟨dx, ey⟩ := id h1.1
  exact ⟨y, dx, _, rfl, ey, .inr ⟨.inl ⟨z, rfl⟩, spn_str T ⟨fun _ _ e => e, h⟩⟩⟩
theorem cmp_lst {P : Program} {mg : Str → Option Value} (T : Txt P K mg) {neg : Bool} {y D M : Addr} {ps qs : List (Nat × Int)} {H : Hp} {Q : VK} (h1 : RowAt K H y D ps) (hM : Prs H M qs) (h : Q (.bl neg) H) : rCmpO neg (He.ga K "Row") (sp_Row_eq K) (spn_Row_eq K) (.ref y) (.ref M) H Q := by
  obtain ⟨dx, ey⟩ := id h1.1
  obtain ⟨as, eM, _⟩ := id hM
  exact ⟨y, dx, _, rfl, ey, .inr ⟨.inr ⟨M, _, rfl, eM⟩, spn_lst T eM ⟨fun _ _ e => e, h⟩⟩⟩
theorem lt_rows {P : Program} {mg : Str → Option Value} (T : Txt P K mg) {y D z F : Addr} {ps qs : List (Nat × Int)} {H : Hp} {Q : VK} (h1 : RowAt K H y D ps) (h2 : RowAt K H z F qs) (h : Q (.bl (ltP ps qs)) H) : rLtO (He.ga K "Row") (sp_Row_lt K) (.ref y) (.ref z) H Q := by
  obtain ⟨dx, ey⟩ := id h1.1
  obtain ⟨dz, ez⟩ := id h2.1
  exact ⟨y, dx, _, z, dz, _, rfl, rfl, ey, ez, row_lt_ok T h1 h2 h⟩
theorem is_ok {a b : Bool} {H : Hp} {Q : VK} {E : XK} (h : Q (.bl (decide (a = b))) H) : sp_law_is K [.bl a, .bl b] H Q E := by
  refine ⟨rfl, ?_⟩
  unfold t_law_is
  walk_at "st"
  refine isi_go (.ty "bool") (.base (.bl _)) (kit_ty (r := true) (by decide +kernel)) ?_
  walk_at "st"
  refine .inl ⟨rfl, ?_⟩
  rw [show decide (V.bl a = V.bl b) = decide (a = b) by cases a <;> cases b <;> rfl]
  exact h
/-! the second row, the string -/
theorem DrL.ne {H : Hp} {d L : Addr} (h : DrL H d) (hL : H L = none) : L ≠ d := fun q => by
  obtain ⟨ds, _, e⟩ := h
  rw [← q, hL] at e
  cases e
theorem prs_mid {M : Addr} {ps : List (Nat × Int)} {k n : Nat} {H : Hp} {Q : VK} (hM : Prs H M ps) (h : ∀ p H', Same H H' → H p = none → Prs H' p ((ps.drop k).take n) → Q (.ref p) H') : rSlA K (.ref M) (some (k : Int)) (some ((k : Int) + (n : Int))) H Q := by
  obtain ⟨as, eM, la, ha⟩ := hM
  refine slA_lst (.of eM) fun p hp => ?_
  rw [cutV_any]
  refine h p _ (Same.new hp) hp ⟨(as.drop k).take n, by rw [upd_same, List.map_take, List.map_drop], by simp [la], fun j a q e1 e2 => ?_⟩
  rw [List.getElem?_take] at e1 e2
  split at e1
  · rename_i c
    rw [if_pos c, List.getElem?_drop] at e2
    rw [List.getElem?_drop] at e1
    have key := ha _ a q e1 e2
    rw [upd_ne (ne_of_none key hp)]
    exact key
  · cases e1
theorem near_ok {d M : Addr} {ps : List (Nat × Int)} {H : Hp} {Q : VK} {E : XK} (ok : Okp ps) (hn : ps.length ≤ 500) (hM : Prs H M ps) (nM : M ≠ d) (hd : DrL H d)
    (h : ∀ N H' qs, Keep d H H' → DrL H' d → N ≠ d → Prs H' N qs → Okp qs → qs.length ≤ 600 → Q (.ref N) H') : sp_law_near K [.ref d, .ref M] H Q E := by
  refine ⟨rfl, ?_⟩
  unfold t_law_near
  walk_at "sq"
  walk_at "st"
  walk_at "sq"
  walk_at "st"
  refine pick_ok (by decide) hd fun kd H1 _ _ k1 d1 => ?_
  have hM1 := hM.keepD k1 nM hd
  walk_at "st"
  walk_at "sq"
  walk_at "st"
  obtain ⟨as1, eM1, la1, _⟩ := id hM1
  refine lenA_lst (.of eM1) ?_
  rw [List.length_map, la1]
  walk_at "st"
  refine pick_ok (by omega) d1 fun at0 H2 a0 a1 k2 d2 => ?_
  have hM2 := hM1.keepD k2 nM d1
  obtain ⟨k, rfl⟩ : ∃ n : Nat, at0 = n := ⟨at0.toNat, by omega⟩
  have hk : k ≤ ps.length := by omega
  walk_at "st"
  walk_at "sq"
  walk_at "st"
  obtain ⟨as2, eM2, la2, _⟩ := id hM2
  refine lenA_lst (.of eM2) ?_
  rw [List.length_map, la2]
  walk_at "st"
  refine pick_ok (by omega) d2 fun e0 H3 b0 b1 k3 d3 => ?_
  have hM3 := hM2.keepD k3 nM d2
  obtain ⟨n, rfl⟩ : ∃ n : Nat, e0 = n := ⟨e0.toNat, by omega⟩
  have kk := k1.trans (k2.trans k3)
  walk_at "st"
  walk_at "sq"
  walk_at "st"
  by_cases c0 : kd = 0
  · rw [decide_eq_true c0]
    walk_at "st"
    refine row_of_ok (by decide) (by decide) d3 fun qs N H4 okq ln _ nN hN k4 d4 => ?_
    exact h N H4 qs (kk.trans k4) d4 nN hN okq (by omega)
  rw [decide_eq_false c0]
  walk_at "st"
  walk_at "sq"
  walk_at "st"
  by_cases c1 : kd = 1
  · rw [decide_eq_true c1]
    walk_at "st"
    refine prs_list hM3 fun N H4 s4 fN hN => ?_
    exact h N H4 ps (kk.trans (Keep.same s4)) (d3.same s4) (d3.ne fN) hN ok (by omega)
  rw [decide_eq_false c1]
  walk_at "st"
  walk_at "sq"
  walk_at "st"
  by_cases c2 : kd = 2
  · rw [decide_eq_true c2]
    walk_at "st"
    refine prs_take hM3 hk fun N H4 s4 fN hN => ?_
    exact h N H4 _ (kk.trans (Keep.same s4)) (d3.same s4) (d3.ne fN) hN (ok.sub fun p m => List.mem_of_mem_take m) (by rw [List.length_take]; omega)
  rw [decide_eq_false c2]
  walk_at "st"
  walk_at "sq"
  walk_at "st"
  have mid : ∀ {Q2 : VK}, (∀ N H', Same H3 H' → H3 N = none → Prs H' N ((ps.drop k).take n) → Q2 (.ref N) H') → rSlA K (.ref M) (some (k : Int)) (some ((k : Int) + (n : Int))) H3 Q2 := fun {Q2} q => prs_mid hM3 q
  by_cases c3 : kd = 3
  · rw [decide_eq_true c3]
    walk_at "st"
    refine mid fun N H4 s4 fN hN => ?_
    exact h N H4 _ (kk.trans (Keep.same s4)) (d3.same s4) (d3.ne fN) hN (ok.sub fun p m => List.mem_of_mem_drop (List.mem_of_mem_take m)) (by rw [List.length_take, List.length_drop]; omega)
  rw [decide_eq_false c3]
  walk_at "st"
  obtain ⟨as3, eM3, la3, ha3⟩ := id hM3
  refine lenA_lst (.of eM3) ?_
  rw [List.length_map, la3]
  walk_at "st"
  by_cases c4 : k = ps.length
  · rw [decide_eq_true (show ((k : Nat) : Int) = (ps.length : Nat) by omega)]
    walk_at "st"
    refine mid fun N H4 s4 fN hN => ?_
    exact h N H4 _ (kk.trans (Keep.same s4)) (d3.same s4) (d3.ne fN) hN (ok.sub fun p m => List.mem_of_mem_drop (List.mem_of_mem_take m)) (by rw [List.length_take, List.length_drop]; omega)
  rw [decide_eq_false (show ¬ ((k : Nat) : Int) = (ps.length : Nat) by omega)]
  have hk2 : k < ps.length := by omega
  have hk3 : k < as3.length := by omega
  have ea := ha3 k as3[k] ps[k] (List.getElem?_eq_getElem hk3) (List.getElem?_eq_getElem hk2)
  have okk := ok _ (List.getElem_mem hk2)
  walk_at "st"
  walk_at "sq"
  walk_at "st"
  refine ixA_lst (.of eM3) (v := .ref as3[k]) (atI_nat (by rw [List.getElem?_map, List.getElem?_eq_getElem hk3]; rfl)) ?_
  walk_at "st"
  refine ixA_tup (SqT.of ea) (v := .str (tx [ps[k].1])) rfl ?_
  walk_at "st"
  refine pick_ok (by decide) d3 fun z H4 z0 z1 k4 d4 => ?_
  have hM4 := hM3.keepD k4 nM d3
  walk_at "st"
  intro T1 hT1
  have sT1 := Same.new (o := .tup [.str (tx [ps[k].1]), .int z]) hT1
  have hM5 := hM4.same sT1
  have d5 := d4.same sT1
  have k5 := kk.trans (k4.trans (Keep.same sT1))
  have eT5 : upd H4 T1 (.tup [.str (tx [ps[k].1]), .int z]) T1 = some (.tup [.str (tx [ps[k].1]), .int z]) := upd_same
  generalize upd H4 T1 (.tup [.str (tx [ps[k].1]), .int z]) = H5 at hM5 d5 k5 eT5 ⊢
  -- the end: the pair is put in
  have fin : ∀ (T : Addr) (c : Nat) (y : Int) (H6 : Hp), Keep d H H6 → DrL H6 d → Prs H6 M ps → H6 T = some (.tup [.str (tx [c]), .int y]) → c ∈ letters → 0 ≤ y → y ≤ 9 →
      tRet (tOp rAddA (tOp rAddA (tSl (rSlA K) (tVar 1) tNoPart (tPart (tVar 4))) (tLst (tCons (tVar 6) tNil))) (tSl (rSlA K) (tVar 1) (tPart (tOp rAddA (tVar 4) (tC (.int 1)))) tNoPart)) { nx := fun _ H' => Q .non H', rt := Q }
        [some (.ref d), some (.ref M), some (.str (Str.ofString "abcdefghijklmnopqrstuvwxyz")), some (.int kd), some (.int (k : Nat)), some (.int ((k : Nat) + (n : Nat))), some (.ref T)] H6 := by
    intro T c y H6 k6 d6 hM6 eT cl y0 y9
    walk_at "st"
    refine prs_take hM6 hk fun A H7 s7 fA hA => ?_
    walk_at "st"
    intro B hB
    have sB := Same.new (o := .lst [.ref T]) hB
    have pB : Prs (upd H7 B (.lst [.ref T])) B [(c, y)] := ⟨[T], upd_same, rfl, fun j a q e1 e2 => by
      cases j with
      | zero =>
        cases e1
        cases e2
        exact sB _ _ (s7 _ _ eT)
      | succ j => simp at e1⟩
    refine prs_cat (hA.same sB) pB (by rw [List.length_take]; simp; omega) fun C H8 s8 fC hC => ?_
    walk_at "st"
    have s68 := s7.trans (sB.trans s8)
    refine prs_drop (i := k + 1) (hM6.same s68) (by omega) fun G H9 s9 fG hG => ?_
    refine prs_cat (hC.same s9) hG (by rw [List.length_append, List.length_take, List.length_drop]; simp; omega) fun N H10 s10' fN hN => ?_
    have s610 := s68.trans (s9.trans s10')
    refine h N H10 _ (k6.trans (Keep.same s610)) (d6.same s610) ((d6.same (s68.trans s9)).ne fN) hN (((ok.sub fun p m => List.mem_of_mem_take m).app fun p m => ?_).app (ok.sub fun p m => List.mem_of_mem_drop m)) (by rw [List.length_append, List.length_append, List.length_take, List.length_drop]; simp; omega)
    rw [List.mem_singleton.mp m]
    exact ⟨cl, y0, y9⟩
  walk_at "st"
  walk_at "sq"
  walk_at "st"
  by_cases c5 : kd = 4
  case neg =>
    rw [decide_eq_false c5]
    refine rd_iteF (rd_next ?_)
    exact fin T1 _ z H5 k5 d5 hM5 eT5 okk.1 z0 (by omega)
  rw [decide_eq_true c5]
  walk_at "st"
  refine pick_ok (by decide) d5 fun q H6 q0 q1 k6 d6 => ?_
  have hM6 := hM5.keepD k6 nM d5
  walk_at "st"
  refine pick_one (by decide) (by decide) q0 (by have e : (Str.ofString "abcdefghijklmnopqrstuvwxyz").length = 26 := by decide
                                                 rw [e]; omega) fun c hc => ?_
  obtain ⟨as6, eM6, la6, ha6⟩ := id hM6
  have hk6 : k < as6.length := by omega
  have ea6 := ha6 k as6[k] ps[k] (List.getElem?_eq_getElem hk6) (List.getElem?_eq_getElem hk2)
  walk_at "st"
  refine ixA_lst (.of eM6) (v := .ref as6[k]) (atI_nat (by rw [List.getElem?_map, List.getElem?_eq_getElem hk6]; rfl)) ?_
  walk_at "st"
  refine ixA_tup (SqT.of ea6) (v := .int ps[k].2) rfl ?_
  walk_at "st"
  intro T2 hT2
  have sT2 := Same.new (o := .tup [.str (tx [c]), .int ps[k].2]) hT2
  exact fin T2 c _ _ (k5.trans (k6.trans (Keep.same sT2))) (d6.same sT2) (hM6.same sT2) upd_same hc okk.2.1 okk.2.2
theorem string_of_ok {d M : Addr} {ps : List (Nat × Int)} {H : Hp} {Q : VK} {E : XK} (hn : ps.length ≤ 500) (hM : Prs H M ps) (nM : M ≠ d) (hd : DrL H d) (h : ∀ (l : List Nat) H', l.length ≤ 1000 → Keep d H H' → DrL H' d → Q (.str (tx l)) H') : sp_law_string_of K [.ref d, .ref M] H Q E := by
  have se : (Str.ofString "") = tx [] := by decide +kernel
  have zl : (Str.ofString "abcdefghijklmnopqrstuvwxyz").length = 26 := by decide
  refine ⟨rfl, ?_⟩
  unfold t_law_string_of
  walk_at "sq"
  walk_at "st"
  walk_at "sq"
  walk_at "st"
  refine ⟨⟨_, rfl⟩, ?_⟩
  walk_at "st"
  refine comp_fst (Nat.le_of_ble_eq_true rfl) hM (by omega) fun L1 H1 s1 f1 e1 => ?_
  refine join_ok e1 (by rw [List.length_map]; omega) ?_
  have cl : (ps.map Prod.fst).length = ps.length := List.length_map ..
  generalize ps.map Prod.fst = cs at cl
  have d1 := hd.same s1
  walk_at "st"
  walk_at "sq"
  walk_at "st"
  refine lenA_str (by rw [tx_len]; exact small2 (by omega)) ?_
  rw [tx_len]
  walk_at "st"
  refine pick_ok (by omega) d1 fun a0 H2 a1 a2 k2 d2 => ?_
  obtain ⟨k, rfl⟩ : ∃ n : Nat, a0 = n := ⟨a0.toNat, by omega⟩
  walk_at "st"
  walk_at "sq"
  walk_at "st"
  refine lenA_str (by rw [tx_len]; exact small2 (by omega)) ?_
  rw [tx_len]
  walk_at "st"
  refine pick_ok (by omega) d2 fun e0 H3 b1 b2 k3 d3 => ?_
  obtain ⟨n, rfl⟩ : ∃ n : Nat, e0 = n := ⟨e0.toNat, by omega⟩
  walk_at "st"
  walk_at "sq"
  walk_at "st"
  refine slA_str (by rw [tx_len]; exact small2 (by omega)) ?_
  rw [cutS_any]
  have pl : ((cs.drop k).take n).length ≤ 500 := by rw [List.length_take, List.length_drop]; omega
  generalize (cs.drop k).take n = part at pl ⊢
  walk_at "st"
  walk_at "sq"
  walk_at "st"
  refine pick_ok (by decide) d3 fun kd H4 _ _ k4 d4 => ?_
  have kk := (Keep.same (d := d) s1).trans (k2.trans (k3.trans k4))
  walk_at "st"
  walk_at "sq"
  walk_at "st"
  by_cases c0 : kd = 0
  · rw [decide_eq_true c0]
    walk_at "st"
    refine odd_ok d4 fun c H5 k5 d5 => ?_
    exact h [c] H5 (by simp) (kk.trans k5) d5
  rw [decide_eq_false c0]
  walk_at "st"
  walk_at "sq"
  walk_at "st"
  by_cases c1 : kd = 1
  · rw [decide_eq_true c1]
    walk_at "st"
    refine pick_ok (by decide) d4 fun q H5 q0 q1 k5 d5 => ?_
    refine pick_one (by decide) (by decide) q0 (by rw [zl]; omega) fun c hc => ?_
    walk_at "st"
    refine pick_ok (by decide) d5 fun q2 H6 q3 q4 k6 d6 => ?_
    refine pick_one (by decide) (by decide) q3 (by rw [zl]; omega) fun c2 hc2 => ?_
    refine addA_str (by rw [tx_len, tx_len]; exact small2 (by simp)) ?_
    rw [tx_app]
    exact h _ H6 (by simp) (kk.trans (k5.trans k6)) d6
  rw [decide_eq_false c1]
  walk_at "st"
  walk_at "sq"
  walk_at "st"
  have last : ∀ {H' : Hp}, Keep d H H' → DrL H' d → Q (.str (tx part)) H' := fun {H'} a b => h _ H' (by omega) a b
  by_cases c2 : kd = 2
  case neg =>
    rw [decide_eq_false c2]
    walk_at "st"
    exact last kk d4
  rw [decide_eq_true c2]
  walk_at "st"
  by_cases c3 : part = []
  case pos =>
    rw [decide_eq_true (show tx part = Str.ofString "" by rw [c3, se])]
    walk_at "st"
    exact last kk d4
  rw [decide_eq_false (show ¬ tx part = Str.ofString "" from fun z => by rw [se, tx_inj] at z; exact c3 z)]
  have p1 : 0 < part.length := by
    cases part with
    | nil => exact absurd rfl c3
    | cons x r => exact Nat.succ_pos _
  walk_at "st"
  walk_at "sq"
  walk_at "st"
  refine lenA_str (by rw [tx_len]; exact small2 (by omega)) ?_
  rw [tx_len]
  walk_at "st"
  refine pick_ok (by omega) d4 fun j0 H5 j1 j2 k5 d5 => ?_
  obtain ⟨j, rfl⟩ : ∃ n : Nat, j0 = n := ⟨j0.toNat, by omega⟩
  walk_at "st"
  refine slA_str (by rw [tx_len]; exact small2 (by omega)) ?_
  rw [cut_to _ _ (show j ≤ part.length by omega)]
  walk_at "st"
  refine pick_ok (by decide) d5 fun q H6 q0 q1 k6 d6 => ?_
  refine pick_one (by decide) (by decide) q0 (by rw [zl]; omega) fun c hc => ?_
  have t1 : (part.take j).length ≤ 500 := by rw [List.length_take]; omega
  have t2 : (part.drop (j + 1)).length ≤ 500 := by rw [List.length_drop]; omega
  refine addA_str (by rw [tx_len, tx_len]; exact small2 (by simp; omega)) ?_
  rw [tx_app]
  walk_at "st"
  refine slA_str (by rw [tx_len]; exact small2 (by omega)) ?_
  have e1 : ((j : Nat) : Int) + 1 = ((j + 1 : Nat) : Int) := by omega
  rw [e1, cut_from _ _ (show j + 1 ≤ part.length by omega)]
  refine addA_str (by rw [tx_len, tx_len]; exact small2 (by simp; omega)) ?_
  rw [tx_app]
  exact h _ H6 (by simp; omega) (kk.trans (k5.trans k6)) d6
/-! part in row -/
def inS (a b : Str) : Bool := !(Builtin.Str.occurrences b a 0 b.length 1).isEmpty
theorem in_str {a b : Str} {H : Hp} {Q : VK} (h : Q (.bl (inS a b)) H) : rInA K (.str a) (.str b) H Q := .inr (.inr ⟨a, b, rfl, rfl, h⟩)
theorem inS_empty (b : Str) : inS (Str.ofString "") b = true := by
  unfold inS
  refine (StrLaws.found_iff b (Str.ofString "")).mpr ⟨0, ?_, ?_⟩
  · have e : (Str.ofString "").length = 0 := by decide
    omega
  · rw [StrLaws.subAt_eq]
    have e : (Str.ofString "").length = 0 := by decide
    rw [e]
    rfl
theorem has_str {P : Program} {mg : Str → Option Value} (T : Txt P K mg) {y D : Addr} {z : Str} {ps : List (Nat × Int)} {H : Hp} {Q : VK} {E : XK} (hn : ps.length ≤ 10000) (hy : RowAt K H y D ps) (h : ∀ H', Same H H' → Q (.bl (inS z (tx (ps.map Prod.fst)))) H') : sp_Row_contains K [.ref y, .str z] H Q E := by
  refine ⟨rfl, ?_⟩
  unfold t_Row_contains
  walk_at "sq"
  walk_at "st"
  refine isi_go (.ty "str") (.base (.str _)) (kit_ty (r := true) (by decide +kernel)) ?_
  walk_at "st"
  obtain ⟨dx, ey⟩ := id hy.1
  refine ⟨y, dx, _, rfl, ey, row_signs_ok T hn hy fun H1 s1 => ?_⟩
  exact in_str (h H1 s1)
def insideP (ps qs : List (Nat × Int)) : Bool := (List.range (ps.length + 1 - qs.length)).any fun i => decide ((ps.drop i).take qs.length = qs)
theorem insideP_nil (ps : List (Nat × Int)) : insideP ps [] = true := by
  unfold insideP
  rw [List.any_eq_true]
  exact ⟨0, List.mem_range.mpr (by simp), by simp⟩
theorem insideP_self (ps : List (Nat × Int)) : insideP ps ps = true := by
  unfold insideP
  rw [List.any_eq_true]
  exact ⟨0, List.mem_range.mpr (by omega), by simp⟩
theorem has_row {P : Program} {mg : Str → Option Value} (T : Txt P K mg) {y D z F : Addr} {ps qs : List (Nat × Int)} {H : Hp} {Q : VK} {E : XK} (hn : ps.length ≤ 5000) (hq : qs.length ≤ 5000) (okp : ∀ p ∈ ps, p.1 ∈ letters) (okq : ∀ p ∈ qs, p.1 ∈ letters) (hy : RowAt K H y D ps) (hz : RowAt K H z F qs)
    (h : ∀ H', Same H H' → Q (.bl (insideP ps qs)) H') : sp_Row_contains K [.ref y, .ref z] H Q E := by
  refine ⟨rfl, ?_⟩
  unfold t_Row_contains
  walk_at "sq"
  walk_at "st"
  obtain ⟨dx, ey⟩ := id hy.1
  obtain ⟨dz, ez⟩ := id hz.1
  obtain ⟨as, eD, la, ha⟩ := id hy.2
  obtain ⟨bs, eF, lb, hb⟩ := id hz.2
  refine isi_go (.ty "str") (Rz.tyX_own T.ty_Row ez) T.i_Row_str ?_
  walk_at "st"
  walk_at "sq"
  walk_at "st"
  refine ⟨z, _, dz, _, _, rfl, ez, T.c_Row, T.n_Row_pairs, look_pairs _, ?_⟩
  walk_at "st"
  refine lenA_lst (.of eF) ?_
  rw [List.length_map, lb]
  walk_at "st"
  refine ⟨y, _, dx, _, _, rfl, ey, T.c_Row, T.n_Row_pairs, look_pairs _, ?_⟩
  walk_at "st"
  refine lenA_lst (.of eD) ?_
  rw [List.length_map, la]
  walk_at "st"
  refine ⟨_, rfl, by omega, by omega, fun L hL => ?_⟩
  refine lcR (n := ((ps.length : Nat) : Int) - (qs.length : Nat) + 1) (fun i H2 => Same H H2 ∧ H2 L = some (.lst ((List.range i).map fun i => V.bl (decide ((ps.drop i).take qs.length = qs))))) ⟨Same.new hL, upd_same⟩ ?_ ?_
  · rintro i H2 hi ⟨s2, eL⟩
    walk_at "st"
    refine ⟨rfl, ?_⟩
    walk_at "st"
    refine ⟨y, _, dx, _, _, rfl, s2 _ _ ey, T.c_Row, T.n_Row_pairs, look_pairs _, ?_⟩
    walk_at "st"
    refine prs_mid (hy.2.same s2) fun A H3 s3 fA hA => ?_
    walk_at "st"
    have s23 := s2.trans s3
    refine ⟨z, _, dz, _, _, rfl, s23 _ _ ez, T.c_Row, T.n_Row_pairs, look_pairs _, ?_⟩
    refine eq_ps hA (hz.2.same s23) (fun p m => okp p (List.mem_of_mem_drop (List.mem_of_mem_take m))) okq ?_
    refine ⟨_, s3 _ _ eL, by rw [List.length_map, List.length_range, sizeLine_eq]; omega, fun a o e => ?_, ?_⟩
    · rw [upd_ne (ne_of_none e hL)]
      exact s23 _ _ e
    · rw [upd_same, List.range_succ, List.map_append]
      rfl
  · rintro H2 ⟨s2, eL⟩
    have en : (((ps.length : Nat) : Int) - (qs.length : Nat) + 1).toNat = ps.length + 1 - qs.length := by omega
    rw [en] at eL
    refine ⟨L, (List.range (ps.length + 1 - qs.length)).map fun i => decide ((ps.drop i).take qs.length = qs), rfl, .of (by rw [eL, List.map_map]; rfl), ?_⟩
    have ea : (((List.range (ps.length + 1 - qs.length)).map fun i => decide ((ps.drop i).take qs.length = qs)).any id) = insideP ps qs := by
      unfold insideP
      rw [List.any_map]
      rfl
    rw [ea]
    exact h H2 s2
theorem rd_truth {ta : TE} {σ : L2.St} {H : Hp} {B : Bool → Hp → Prop} (h : ta σ H fun x H' => ∃ k, TruV K x H' k ∧ B k H') : tTruth K ta σ H B := h
theorem tru_bl {b : Bool} {H : Hp} {B : Bool → Prop} (h : B b) : ∃ k, TruV K (.bl b) H k ∧ B k := ⟨b, rfl, h⟩
local macro_rules | `(tactic| walk_at "rd") => `(tactic| first | (with_reducible refine rd_truth ?_) | (with_reducible refine tru_bl ?_))
theorem ltP_self (ps : List (Nat × Int)) : ltP ps ps = false := by
  unfold ltP PySem.W.dataLt
  have h := PySem.W.lex_pre (PySem.W.keyToks (.list (ps.map pd))) [] []
  rw [List.append_nil] at h
  rw [h]
  rfl
theorem is_same {a : Bool} {H : Hp} {Q : VK} {E : XK} (h : Q (.bl true) H) : sp_law_is K [.bl a, .bl a] H Q E := is_ok (by rw [decide_eq_true (rfl : a = a)]; exact h)
theorem empty_ok {P : Program} {mg : Str → Option Value} (T : Txt P K mg) {H : Hp} {Q : VK} {E : XK} (h : ∀ y D H', Same H H' → RowAt K H' y D [] → Q (.ref y) H') : MkG (He.ga K "Row") (sp_Row_init K) (List.drop 0 [.str "", .non]) [] H Q E := by
  have se : (Str.ofString "") = tx [] := by decide +kernel
  intro y dx hy hdx hne
  have s0 : Same H (upd (upd H dx (.own y)) y (.ins (He.ga K "Row") dx [])) := made_same hy hdx
  show sp_Row_init K [.ref y, .str (Str.ofString ""), .non] _ _ _
  rw [se]
  refine row_init_ok T (l := []) (hs := []) (by decide) (by decide) upd_same (.inr ⟨rfl, rfl⟩) (fun _ _ _ D H1 k1 hD e1 p1 => ?_) (fun c => absurd c (by decide)) (fun _ c => absurd rfl c) (fun _ _ z c => by simp [badH] at c)
  exact ⟨rfl, h y D H1 (keep_same hy hdx k1) ⟨⟨dx, e1⟩, p1⟩⟩
theorem law_ok {P : Program} {mg : Str → Option Value} (T : Txt P K mg) {a : Addr} {ns : List Int} {H : Hp} {Q : VK} {E : XK} (hS : SqL K H a (ns.map V.int)) (hn : ns.length ≤ 63) (h : ∀ H', Q (.bl true) H') : sp_law K [.ref a] H Q E := by
  refine ⟨rfl, ?_⟩
  unfold t_law
  walk_at "sq"
  walk_at "st"
  refine pool_ok hS hn fun d H1 _ _ d1 => ?_
  walk_at "st"
  walk_at "sq"
  walk_at "st"
  refine row_of_ok (by decide) (by decide) d1 fun ps M H2 okp lp _ nM hM _ d2 => ?_
  walk_at "st"
  walk_at "sq"
  walk_at "st"
  refine near_ok okp (by omega) hM nM d2 fun N H3 qs k3 d3 nN hN okq lq => ?_
  have hM3 := hM.keepD k3 nM d2
  walk_at "st"
  walk_at "sq"
  walk_at "st"
  refine string_of_ok (by omega) hM3 nM d3 fun zs H4 lz k4 d4 => ?_
  have hM4 := hM3.keepD k4 nM d3
  have hN4 := hN.keepD k4 nN d3
  walk_at "st"
  walk_at "sq"
  walk_at "st"
  refine as_row_ok T (by omega) hM4 okp fun y1 D1 H5 s5 _ _ r1 => ?_
  walk_at "st"
  walk_at "sq"
  walk_at "st"
  refine as_row_ok T (by omega) (hN4.same s5) okq fun y2 D2 H6 s6 _ _ r2 => ?_
  have hM6 := (hM4.same s5).same s6
  have hN6 := (hN4.same s5).same s6
  have r1 := r1.same s6
  have lp1 : ∀ p ∈ ps, p.1 ∈ letters := fun p m => (okp p m).1
  have lq1 : ∀ p ∈ qs, p.1 ∈ letters := fun p m => (okq p m).1
  walk_at "st"
  walk_at "sq"
  walk_at "st"
  refine cmp_rows T lp1 lq1 r1 r2 ?_
  walk_at "st"
  refine eq_ps hM6 hN6 lp1 lq1 ?_
  rw [show (decide (ps = qs) != false) = decide (ps = qs) by cases decide (ps = qs) <;> rfl]
  walk_at "st"
  refine is_same ?_
  walk_at "st"
  refine cmp_rows T lp1 lq1 r1 r2 ?_
  walk_at "st"
  refine ne_ps hM6 hN6 lp1 lq1 ?_
  rw [show (decide (ps = qs) != true) = !decide (ps = qs) by cases decide (ps = qs) <;> rfl]
  walk_at "st"
  refine is_same ?_
  walk_at "st"
  walk_at "sq"
  walk_at "st"
  refine lt_rows T r1 r2 ?_
  walk_at "st"
  refine lt_ps hM6 hN6 ?_
  walk_at "st"
  refine is_same ?_
  walk_at "st"
  refine lt_rows T r2 r1 ?_
  walk_at "st"
  refine lt_ps hN6 hM6 ?_
  walk_at "st"
  refine is_same ?_
  walk_at "st"
  walk_at "sq"
  walk_at "st"
  refine lt_rows T r1 r1 ?_
  rw [ltP_self]
  walk_at "st"
  refine is_same ?_
  walk_at "st"
  refine cmp_rows T lp1 lp1 r1 r1 ?_
  rw [show (decide (ps = ps) != false) = true by simp]
  walk_at "st"
  refine is_same ?_
  walk_at "st"
  walk_at "sq"
  walk_at "st"
  walk_at "sq"
  walk_at "st"
  obtain ⟨as6, eM6, la6, _⟩ := id hM6
  obtain ⟨bs6, eN6, lb6, _⟩ := id hN6
  refine lenA_lst (.of eM6) ?_
  rw [List.length_map, la6]
  walk_at "st"
  refine lenA_lst (.of eN6) ?_
  rw [List.length_map, lb6]
  walk_at "st"
  refine ⟨_, rfl, by omega, by omega, ?_⟩
  have anyS : ∀ i : Nat, ((List.range (i + 1)).any fun i => decide ((ps.drop i).take qs.length = qs)) = (((List.range i).any fun i => decide ((ps.drop i).take qs.length = qs)) || decide ((ps.drop i).take qs.length = qs)) := fun i => by
    rw [List.range_succ, List.any_append]
    simp
  refine forR (n := ((ps.length : Nat) : Int) - (qs.length : Nat) + 1) (fun i σ H7 => Same H6 H7 ∧ ∃ v8, σ = [some (.ref a), some (.ref d), some (.ref M), some (.ref N), some (.str (tx zs)), some (.ref y1), some (.ref y2), some (.bl ((List.range i).any fun i => decide ((ps.drop i).take qs.length = qs))), v8, none, none]) ⟨Same.refl _, none, rfl⟩ ?_ ?_
  · rintro i σ H7 hi ⟨s7, v8, rfl⟩
    walk_at "st"
    refine lenA_lst (.of (s7 _ _ eN6)) ?_
    rw [List.length_map, lb6]
    walk_at "st"
    refine prs_mid (hM6.same s7) fun A H8 s8 fA hA => ?_
    walk_at "st"
    refine eq_ps hA ((hN6.same s7).same s8) (fun p m => lp1 p (List.mem_of_mem_drop (List.mem_of_mem_take m))) lq1 ?_
    walk_at "st"
    by_cases c : (ps.drop i).take qs.length = qs
    · rw [decide_eq_true c]
      walk_at "st"
      refine ⟨s7.trans s8, some (.int ((i : Nat) : Int)), ?_⟩
      rw [anyS, decide_eq_true c, Bool.or_true]
      rfl
    · rw [decide_eq_false c]
      walk_at "st"
      refine ⟨s7.trans s8, some (.int ((i : Nat) : Int)), ?_⟩
      rw [anyS, decide_eq_false c, Bool.or_false]
      rfl
  · rintro σ H7 ⟨s7, v8, rfl⟩
    have ei : ((List.range (((ps.length : Nat) : Int) - (qs.length : Nat) + 1).toNat).any fun i => decide ((ps.drop i).take qs.length = qs)) = insideP ps qs := by
      rw [show (((ps.length : Nat) : Int) - (qs.length : Nat) + 1).toNat = ps.length + 1 - qs.length by omega]
      rfl
    rw [ei]
    have r1 := r1.same s7
    have r2 := r2.same s7
    have hM7 := hM6.same s7
    have hN7 := hN6.same s7
    walk_at "st"
    walk_at "sq"
    walk_at "st"
    obtain ⟨dx1, e1⟩ := id r1.1
    refine ⟨y1, dx1, _, rfl, e1, has_row T (by omega) (by omega) lp1 lq1 r1 r2 fun H8 s8 => ⟨_, rfl, ?_⟩⟩
    walk_at "st"
    refine is_same ?_
    walk_at "st"
    refine empty_ok T fun y0 D0 H9 s9 r0 => ?_
    have r1 := (r1.same s8).same s9
    walk_at "st"
    obtain ⟨dx1, e1⟩ := id r1.1
    refine ⟨y1, dx1, _, rfl, e1, has_row T (qs := []) (by omega) (by decide) lp1 (fun p m => nomatch m) r1 r0 fun H10 s10' => ⟨_, rfl, ?_⟩⟩
    rw [insideP_nil]
    walk_at "st"
    refine is_same ?_
    have r1 := r1.same s10'
    walk_at "st"
    obtain ⟨dx1, e1⟩ := id r1.1
    refine ⟨y1, dx1, _, rfl, e1, has_row T (by omega) (by omega) lp1 lp1 r1 r1 fun H11 s11 => ⟨_, rfl, ?_⟩⟩
    rw [insideP_self]
    walk_at "st"
    refine is_same ?_
    have r1 := r1.same s11
    have sA := s8.trans (s9.trans (s10'.trans s11))
    have hM11 := hM7.same sA
    have hN11 := hN7.same sA
    have r2 := r2.same sA
    walk_at "st"
    walk_at "sq"
    walk_at "st"
    refine ⟨⟨_, rfl⟩, ?_⟩
    walk_at "st"
    refine comp_fst (Nat.le_of_ble_eq_true rfl) hM11 (by omega) fun L1 H12 s12 f12 e12 => ?_
    refine join_ok e12 (by rw [List.length_map]; omega) ?_
    have r1 := r1.same s12
    walk_at "st"
    walk_at "sq"
    walk_at "st"
    obtain ⟨dx1, e1⟩ := id r1.1
    refine ⟨y1, dx1, _, rfl, e1, has_str T (by omega) r1 fun H13 s13 => ⟨_, rfl, ?_⟩⟩
    walk_at "st"
    refine in_str ?_
    walk_at "st"
    refine is_same ?_
    have r1 := r1.same s13
    walk_at "st"
    obtain ⟨dx1, e1⟩ := id r1.1
    refine ⟨y1, dx1, _, rfl, e1, has_str T (by omega) r1 fun H14 s14 => ⟨_, rfl, ?_⟩⟩
    rw [inS_empty]
    walk_at "st"
    refine is_same ?_
    have r1 := r1.same s14
    have sB := s12.trans (s13.trans s14)
    have hM14 := hM11.same sB
    have hN14 := hN11.same sB
    have r2 := r2.same sB
    walk_at "st"
    walk_at "sq"
    walk_at "st"
    refine cmp_str T r1 ?_
    walk_at "st"
    refine is_same ?_
    walk_at "st"
    refine cmp_lst T r1 hM14 ?_
    walk_at "st"
    refine is_same ?_
    walk_at "st"
    walk_at "sq"
    walk_at "st"
    refine cmp_str T r1 ?_
    walk_at "st"
    refine is_same ?_
    walk_at "st"
    refine cmp_lst T r1 hM14 ?_
    walk_at "st"
    refine is_same ?_
    walk_at "st"
    refine shows_ok T (by omega) lp1 r1 hM14 fun H15 s15 => ?_
    walk_at "st"
    refine shows_ok T (by omega) lq1 (r2.same s15) (hN14.same s15) fun H16 _ => ?_
    exact h H16
end Lw
namespace Lw
open PySem PySem.Spec PyProof.Rows L2
theorem law_binds {K : Frg} {f : Addr} {fd : FuncData} (F : FunD K "law" "law" (defArgs s_law) (defBody s_law) (defScope s_law) [] [] f fd) (s : Shared) (v : Value) : BindsTo s fd ⟨[v], []⟩ [("_law_script", v)] :=
  FunD.bindsA (ps := ["_law_script"]) F (fun _ _ _ _ _ _ us hl => match us, hl with | [_], _ => rfl) s [v] rfl
theorem given (w : World) (mg : PySem.Str → Option Value) (f : Addr) (h : Heap) (Y : ∃ K : Frg, K.In h ∧ Rz.SaysR fa fn K) (G : h.Ns mainGlobals mg) (e : mg "law" = some (.ref f)) : Rz.Given PySem.Challenge.rw_risensigns_k03_rows_compared 63 6 "_law_script" w mg f h := by
  obtain ⟨K, KX, c⟩ := Y
  have T : Txt PROG K mg := txt_of KX G c
  have e2 := e.symm.trans T.g_law
  cases e2
  obtain ⟨fd, _, F⟩ := ok_law (w := w) (base := h) T
  refine ⟨K, fd, sp_law K, KX, law_binds F, fun H a ns hl hS => law_ok T hS hl fun _ => rfl, fun base _ _ => ?_⟩
  obtain ⟨fd2, G2, F2⟩ := ok_law (w := w) (base := base) T
  cases Rz.fd_one F F2
  exact G2
end Lw
open PySem PySem.W PySem.Calls PyProof.Rows
theorem PySem.Challenge.cw_risensigns_k03_rows_compared_holds : PySem.Challenge.rw_risensigns_k03_rows_compared.Holds := by
  w_on; o_law
  refine HandSHeadRun.head_any (r := OpenLaw.row PySem.Challenge.rw_risensigns_k03_rows_compared) (q := view (OpenLaw.row PySem.Challenge.rw_risensigns_k03_rows_compared).prog [25]) (H := Lw.hk) (ob := Lw.ob) (M := 6000) (loose := Lw.loose) (d := HandSHeadRun.topDef (OpenLaw.row PySem.Challenge.rw_risensigns_k03_rows_compared).prog 25) (kwd := []) Lw.ob_eq
    (by kernel_rfl) (fun s => by kernel_rfl) Lw.run (by kernel_rfl) (by kernel_rfl) (by kernel_rfl) (by rfl) (by first | assumption | decide +kernel) (by decide +kernel) ⟨rfl, rfl, rfl, rfl, rfl, by decide +kernel⟩ ?hw ?hc
  case hw => w_witness2
  case hc =>
    refine Rz.endX (l := PySem.Challenge.rw_risensigns_k03_rows_compared) (n := 63) (k := 6) (x := "_law_script") rfl (by decide) (by kernel_rfl) ⟨rfl, by decide, by decide⟩ ?F
    intro w mg fa h Y G hmg0
    refine Lw.given w mg fa h Y G ?_
    have e : (HandSHeadRun.topDef (OpenLaw.row PySem.Challenge.rw_risensigns_k03_rows_compared).prog 25).name = ("law" : PySem.Str) := by kernel_rfl
    rw [← e]
    exact hmg0
