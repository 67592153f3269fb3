import PyProof.Rows.All
import Wide.All
import OpenK.AllK
import Wide.FinOn
import PyProof.EqAt
import PyProof.EqKinds
import PyProof.TupleCall
import KE.KExcSuper
import HandS.ForMost
import HandS.ForExc
import HandS.ExcSuper
import KE.GoesEnum
import HandS.Walk
import HandS.TupAny
import HandS.CallSlots
import HandS.Rev
import HandS.DictComp
import HandS.IsInst
import HandS.Flow
import HandS.TupSets
import HandS.AnyAll
import HandS.TupLe
import HandS.SortRule
import HandS.Style
import PySem.Challenge.RW_versionkept_k29_stacks_of_patches
import HandS.Small
import HandS.Strs
import HandS.HeadHook4
import HandS.HeadWalk
import HandS.Head0
import HandS.Head1
import HandS.Head2
import KE.KStateDown
import Lean
set_option Elab.async false
set_option linter.all false
set_option maxRecDepth 100000
set_option maxHeartbeats 0

/-! # An own error over an own class over ValueError, whose __init__ says super().__init__(text) and stores one field -/
namespace PySem
namespace Vx
open PySem.W PySem.Calls PyProof.Rows PySem.HandSPX
/-- the text of such an __init__: its parameters, its two statements, its scope; fld is the field and the parameter -/
def vA (fld : Str) (p1 p2 : Pos) : Arguments :=
  { posonlyargs := [], args := [{ arg := "self", annotation := none, pos := p1 }, { arg := fld, annotation := none, pos := p2 }], vararg := none, kwonlyargs := [], kw_defaults := [], kwarg := none, defaults := [] }
def vB (fld msg : Str) (j : Nat) (r0 r1 r2 r3 r4 r5 q1 q2 q3 q4 : Pos) : List Stmt :=
  [.Expr (.Call (.Attribute (.Call (.Name "super" r0) [] [] r1) "__init__" r2) [.Constant (.str msg) j r3] [] r4) r5,
   .Assign [.Attribute (.Name "self" q1) fld q2] (.Name fld q3) q4]
def vS (fld : Str) : Scope :=
  { kind := .function, names := [(PySem.Str.ofString "self", .local), (fld, .local), (PySem.Str.ofString "__class__", .free), (PySem.Str.ofString "super", .globalImplicit)], isGenerator := false, isCoroutine := false, more := [] }
/-- how the call of super().__init__ is worked, at its places -/
def CallOk (fld msg : Str) (j : Nat) (r0 r1 r2 r3 r4 : Pos) : Prop :=
  ∃ pl : Sem Bool, ∀ env : Env, eval (.Call (.Attribute (.Call (.Name "super" r0) [] [] r1) "__init__" r2) [.Constant (.str msg) j r3] [] r4) env = (do
      let ov ← attributeBase (.Call (.Name "super" r0) [] [] r1) "__init__" env (eval (.Call (.Name "super" r0) [] [] r1) env)
      standAt r2.atName
      let (f, first) ← holding [ov] (getMethod ov "__init__" pl)
      callWith r4 f first (backTo r4 (starEach [.Constant (.str msg) j r3] env)) [])
/-- what the written part tells of the class x at C and of its __init__ at fI -/
structure ErrTxt (prog : Program) (K : Frag) (mg : Str → Option Value) (x fld qual : Str) (C fI : Addr) : Prop where
  gC : mg x = some (.ref C)
  cls : ∃ nm q N bs bm sn sub ab col dd k0 k1 k2 k3 k5, K.lookup C = some (excClassObj nm q C N bs bm true sn sub ab col dd k0 k1 k2 k3 k5 "ValueError.__new__") ∧ refsVE bm = true
  sa : findIn K (.ref C) "__setattr__" = some (some (.builtin "object.__setattr__"))
  ga : findIn K (.ref C) "__getattribute__" = some (some (.builtin "BaseException.__getattribute__"))
  gg : findIn K (.ref C) "__getattr__" = some none
  noN : findIn K (.ref C) fld = some none
  iC : findIn K (.ref C) "__init__" = some (some (.ref fI))
  tC : typeIn K (.ref fI) = some (.type "function")
  kC : keepIn K (.ref C) = true
  exC : subIn K (.ref C) (.type "BaseException") = some true
  tyC : typeIn K (.ref C) = some (.type "type")
  hdC : hasDictIn K C = true
  te : exmOne K (.ref C) (.ref C) = some true
  sup : ks_superIn K C C "__init__" = some (some (.builtin "ValueError.__init__"))
  veC : subIn K (.ref C) (.type "ValueError") = some true
  meC : mroIn K C (.ref C) = some true
  noS : mg "super" = none
  anyC : nsIn K cStatics "thirdparty.any" = some none
  htop : (prog.main.scope.names.lookup ("super" : Str)).isSome = false
  fn : ∃ (msg : Str) (j : Nat) (oc doc pm ct ccl cl : Value) (od an cdd cld : Option Addr) (cda cc : Addr) (osl ccs csl : Array (Option Value)) (vs : Array Value) (file : Str) (tf : Tok) (p1 p2 r0 r1 r2 r3 r4 r5 q1 q2 q3 q4 : Pos),
    K.lookup fI = some ⟨oc, od, .func (ksFn "__init__" qual (vA fld p1 p2) (vB fld msg j r0 r1 r2 r3 r4 r5 q1 q2 q3 q4) (vS fld) .none .none doc pm an (.ref cda) ct cc), osl⟩ ∧ codeIn K (.ref cda) qual = true ∧
    K.lookup cda = some ⟨ccl, cdd, .fields vs, ccs⟩ ∧ vs[2]? = some (.str file tf) ∧ ((prog.main.file : Str) == file) = true ∧
    K.lookup cc = some ⟨cl, cld, .cell (some (.ref C)), csl⟩ ∧ CallOk fld msg j r0 r1 r2 r3 r4
/-- what holds of a field's name, by its letters (rfl and decide for a written one) -/
structure FldOk (fld : Str) : Prop where
  kS : (vS fld).names.lookup ("super" : Str) = some .globalImplicit
  kC : (vS fld).names.lookup ("__class__" : Str) = some .free
  kF : (vS fld).names.lookup fld = some .local
  kE : (vS fld).names.lookup ("self" : Str) = some .local
  nF : (fld == ("self" : Str)) = false
  nD : (fld == ("__debug__" : Str)) = false
  nC : ∀ y ∈ (vS fld).names, y.2 ≠ .cell
  nm : fld.length ≤ 100
  bind : ∀ (qual msg : Str) (j : Nat) (doc pm cdv ct : Value) (an : Option Addr) (cc : Addr) (p1 p2 r0 r1 r2 r3 r4 r5 q1 q2 q3 q4 : Pos) (a b : Value),
    bindArgs (ksFn "__init__" qual (vA fld p1 p2) (vB fld msg j r0 r1 r2 r3 r4 r5 q1 q2 q3 q4) (vS fld) .none .none doc pm an cdv ct cc) ⟨[a, b], []⟩ = pure [(("self" : Str), a), (fld, b)]
theorem fld_paths : FldOk "paths" := ⟨rfl, rfl, rfl, rfl, by decide, by decide, by decide, by decide, fun _ _ _ _ _ _ _ _ _ _ _ _ _ _ _ _ _ _ _ _ _ _ _ => rfl⟩
theorem fld_name : FldOk "name" := ⟨rfl, rfl, rfl, rfl, by decide, by decide, by decide, by decide, fun _ _ _ _ _ _ _ _ _ _ _ _ _ _ _ _ _ _ _ _ _ _ _ => rfl⟩
theorem fld_branch : FldOk "branch" := ⟨rfl, rfl, rfl, rfl, by decide, by decide, by decide, by decide, fun _ _ _ _ _ _ _ _ _ _ _ _ _ _ _ _ _ _ _ _ _ _ _ => rfl⟩
theorem one_line (v : Value) : [v].length ≤ sizeLine := by
  rw [sizeLine_eq]
  exact (by decide : 1 ≤ 16777216)
/-- what __init__ leaves of a fresh error at x -/
structure Begun (h h' : Heap) (x C dx : Addr) (fld : Str) (v : Value) : Prop where
  keep : ∀ b o, b ≠ x → h.get? b = some o → h'.get? b = some o
  obj : ∃ t1 : Addr, h'.get? x = some { cls := .ref C, dict := some dx, data := .fields #[.ref t1, .none, .none, .none, .bool false, .none] }
  dbig : h.objs.size ≤ dx
  dne : dx ≠ x
  ns : h'.Ns1 dx (fun y => if y = fld then some v else none)
/-- a made error -/
structure Made (h h' : Heap) (e C d : Addr) (fld : Str) (v : Value) : Prop where
  keep : ∀ b o, h.get? b = some o → h'.get? b = some o
  new : h.objs.size ≤ e
  obj : ∃ oe vs, h'.get? e = some oe ∧ oe.cls = .ref C ∧ oe.dict = some d ∧ oe.data = .fields vs ∧ vs[1]? = some .none
  dbig : h.objs.size ≤ d
  dne : d ≠ e
  ns : h'.Ns1 d (fun y => if y = fld then some v else none)
section
variable {prog : Program} {w : World} {A : Around} {E : Value → Shared → Prop} {h : Heap} {g : Array GenState} {dr : Drawn} {t : Nat} {os : OsState}
variable {nm q : Str} {C N : Addr} {bs bm : List Value} {hdct : Bool} {sn : List Str} {sub : List Value} {ab : Bool} {col : Option Bool} {dd : Option Addr} {k0 k1 k2 k3 k5 : Option Value}
/-- the wrapper of ValueError.__init__ that super() has bound, called -/
theorem call_wrapped {u e t0 : Addr} {rest : List Value} {Q : Value → Shared → Prop} (hC : h.get? C = some (excClassObj nm q C N bs bm hdct sn sub ab col dd k0 k1 k2 k3 k5 "ValueError.__new__"))
    (he : h.get? e = some (excO C t0)) (hu : h.get? u = some (kxs_mw "ValueError.__init__" e)) (hrest : rest.length ≤ sizeLine)
    (hq : ∀ h' t1, (∀ b o, b ≠ e → h.get? b = some o → h'.get? b = some o) → h'.get? e = some (excO C t1) → Q .none ⟨h', g, dr, t, os⟩) :
    wpAny (model prog w) A (call (.ref u) rest) Q E ⟨h, g, dr, t, os⟩ := by
  refine wpAny_call (codeAny_of_tree ?_)
  show wpAny _ A.in1 (callAny (.ref u) ⟨rest, []⟩) _ _ _
  simp only [callAny]
  refine wpAny_bind (wpAny_load hu ?_)
  simp only [kxs_mw, show (Value.type "method-wrapper" == Value.type "method" || Value.type "method-wrapper" == Value.type "builtin_function_or_method" || Value.type "method-wrapper" == Value.type "method-wrapper") = true by decide, if_true]
  refine W.KFB.if_so (by decide) ?_
  refine wpAny_bind (ESX.check_bound F.excBase_ValueError hC he rfl ?_)
  refine wpAny_bind (wpAny_pure (wpAny_pure ?_))
  refine ⟨plainId_quiet F.excBase_ValueError.init.plain _, codeAny_builtin F.excBase_ValueError.initEntry ?_⟩
  refine exc_init_tree (cls := .ref C) (t0 := t0) (dv := none) (c2 := .none) (c3 := .none) (b4 := .bool false) he hrest fun h' k e' _ => ?_
  exact hq h' _ k e'
end
section
variable {prog : Program} {w : World} {A : Around} {E : Value → Shared → Prop} {R : Result → Shared → Prop} {s : Shared} {K : Frag} {mg : Str → Option Value} {x fld qual : Str} {C fI : Addr}
theorem begins (T : ErrTxt prog K mg x fld qual C fI) (Fo : FldOk fld) {e t0 : Addr} {v : Value} (X : K.In s.heap) (hlim : s.heap.NoLimit) (hg : s.heap.Ns mainGlobals mg)
    (hb : ∃ mb, s.heap.Ns builtinsNs mb ∧ ∀ y : Str, y ≠ "__name__" → mb y = bootBuiltins y) (he : s.heap.get? e = some (excO C t0)) (hne : K.lookup e = none) (hroom : A.depth < recursionLimit)
    (hq : ∀ h' tk dx, Begun s.heap h' e C dx fld v → R (.ok (.ret .none)) { s with heap := h', toks := tk }) :
    codeAny (model prog w) A (.call (.ref fI) ⟨[.ref e, v], []⟩) R s := by
  obtain ⟨msg, j, oc, doc, pm, ct, ccl, cl, od, an, cdd, cld, cda, cc, osl, ccs, csl, vs, file, tf, p1, p2, r0, r1, r2, r3, r4, r5, q1, q2, q3, q4, hf, hcd, hcode, hvs, hfile, hcell, pl, hpl⟩ := T.fn
  obtain ⟨nm, q, N, bs, bm, sn, sub, ab, col, dd, k0, k1, k2, k3, k5, hC, hbm⟩ := T.cls
  have hcl : clsIn K C = some { name := nm, bases := bs, mro := .ref C :: bm, ns := N, qualname := q, hasDict := true, slotNames := sn, subclasses := sub, abstract := ab, collection := col, hasDel := false } := by unfold clsIn; rw [hC] <;> rfl
  have hxC : e ≠ C := fun z => by rw [z] at hne; rw [hne] at hC; cases hC
  refine ks_codeAny_call_defAt (fd := ksFn "__init__" qual (vA fld p1 p2) (vB fld msg j r0 r1 r2 r3 r4 r5 q1 q2 q3 q4) (vS fld) .none .none doc pm an (.ref cda) ct cc)
    (body := vB fld msg j r0 r1 r2 r3 r4 r5 q1 q2 q3 q4) (binds := [("self", .ref e), (fld, v)]) hroom (X _ _ hf) rfl hlim (codeRec_of X hcd) rfl (BindsTo.of_eq (Fo.bind _ _ _ _ _ _ _ _ _ _ _ _ _ _ _ _ _ _ _ _ _ _ _)) Fo.nC ?locs (fun h₁ hn k => ?go)
  case locs =>
    intro y hy
    rcases List.mem_cons.mp hy with rfl | hy
    · exact Fo.kE
    rcases List.mem_cons.mp hy with rfl | hy
    · exact Fo.kF
    · cases hy
  case go =>
    have X₁ : K.In h₁ := X.keeps k
    obtain ⟨mb, hmb, hbb⟩ := hb
    have he₁ := k _ _ he
    have l1 : List.lookup ("self" : Str) ([(("self" : Str), Value.ref e), (fld, v)] : List (Str × Value)).reverse = some (.ref e) := by
      show List.lookup ("self" : Str) [(fld, v), (("self" : Str), Value.ref e)] = _
      have z : (("self" : Str) == fld) = false := by
        have q := Fo.nF
        rw [beq_eq_false_iff_ne] at q ⊢
        exact q.symm
      rw [List.lookup_cons, z]
      rfl
    have l2 : List.lookup fld ([(("self" : Str), Value.ref e), (fld, v)] : List (Str × Value)).reverse = some v := by
      show List.lookup fld [(fld, v), (("self" : Str), Value.ref e)] = _
      rw [List.lookup_cons, beq_self_eq_true]
    refine ks_wpAt_execs_cons (ks_wpAt_Expr_any (ks_wpAt_MethodCall (pl := pl) ?_ (hpl _)))
    refine ks_wpAt_super_base (f := fI) (cc := cda) Fo.kS Fo.kC (by decide) rfl (X₁ _ _ hf) rfl rfl rfl (X₁ _ _ hcode) rfl hvs hfile T.htop ?_
    refine ks_loadName_global rfl Fo.kS (loadGlobal_builtin (hg.keeps k) T.noS (hmb.keeps k) ((hbb _ (by decide)).trans (by first | boot_by_name | rfl | kernel_rfl)) ⟨rfl, ?_⟩)
    refine wpAny_loadName_free rfl Fo.kC rfl ⟨_, X₁ _ _ hcell, rfl⟩ ?_
    refine wpAny_loadName_local (v := .ref e) rfl Fo.kE hn l1 ?_
    have hD := X₁ _ _ hC
    refine ks_wpAny_isType_cls hD rfl ⟨rfl, ?_⟩
    refine ks_wpAny_call_super hD rfl he₁ rfl (fun c z => by cases z) (looks_mroIn X₁ T.meC) (fun h2 hso k2 => ?_)
    have X₂ : K.In h2 := X₁.keeps k2
    have he₂ := k2 _ _ he₁
    have hI : Looks (model prog w) h2 (isInstance (.ref e) (.type "ValueError")) true := by
      have I : InstAt h2 e (excO C t0) C none := ⟨he₂, rfl, rfl, trivial⟩
      exact I.type.andThen (looks_subIn X₂ T.veC)
    have hsup := T.sup
    unfold ks_superIn at hsup
    rw [hcl] at hsup
    refine kxs_getMethod kxs_ValueError hso (looks_opaque X₂ T.anyC) (l₀ := .ref C :: bm) (fun A Q E s k q => wpAny_bind ((looks_clsIn X₂ hcl) A _ E s k (wpAny_pure q))) rfl X₂ hsup hI hxC rfl ?_
    -- the text, then the wrapper's call
    refine kxs_callWith (i := "ValueError.__init__") (x := e) rfl ?_
    refine evalArgs_plain (spliced_cons (Constant_str (k := j) (pos := r3) (spliced_nil ⟨?_, ?_⟩)))
    · exact Heap.get?_push_at rfl rfl
    refine call_wrapped (X₂.keeps (fun b o z => Heap.get?_push_of_some _ z) _ _ hC) (Heap.get?_push_of_some _ he₂) (Heap.get?_push_at rfl rfl) (one_line _) fun h3 t1 k3 he₃ => ?_
    -- self.fld = fld
    have kall : ∀ b o, b ≠ e → h₁.get? b = some o → h3.get? b = some o := fun b o hb z => k3 b o hb (Heap.get?_push_of_some _ (k2 b o z))
    have X₃ : K.In h3 := fun a o z => kall a o (fun y => by rw [y, hne] at z; cases z) (X₁ a o z)
    have Lne : s.heap.objs.size ≠ e := Nat.ne_of_gt (Heap.lt_size he)
    have hn3 : h3.Ns s.heap.objs.size (fun y => List.lookup y ([(("self" : Str), Value.ref e), (fld, v)] : List (Str × Value)).reverse) := by
      obtain ⟨oL, es, ep, hL, r⟩ := hn
      exact ⟨oL, es, ep, kall _ _ Lne hL, r⟩
    refine wpAt_of_wpAny (wpAny_execs_cons (plainObj_wpAny_Assign_Attribute ?_))
    refine ESX.ldL (v := v) hn3 l2 (ESX.ldL (v := .ref e) hn3 l1 ?_ rfl Fo.kE) rfl Fo.kF Fo.nD
    refine set_plain X₃ (ox := excO C t1) (od := none) ⟨he₃, rfl, rfl, trivial⟩ T.sa ?_
    refine exc_osa X₃ he₃ hcl (show refsVE (.ref C :: bm) = true from hbm) rfl T.noN (fun h4 tk4 dx k4 dn dne hx4 hn4 => ?_)
    refine wpAny_execs_nil (hq h4 tk4 dx ⟨fun b o hb z => k4 b o hb (kall b o hb (k b o z)), ⟨t1, hx4⟩, ?_, dne, hn4⟩)
    exact Nat.le_trans (Nat.le_of_lt hn3.lt) dn
/-- C(v): the object, its __init__ -/
theorem making (T : ErrTxt prog K mg x fld qual C fI) (Fo : FldOk fld) {v : Value} (X : K.In s.heap) (hlim : s.heap.NoLimit) (hg : s.heap.Ns mainGlobals mg)
    (hb : ∃ mb, s.heap.Ns builtinsNs mb ∧ ∀ y : Str, y ≠ "__name__" → mb y = bootBuiltins y) (hroom : A.depth + 1 < recursionLimit)
    (hq : ∀ h' tk e d, Made s.heap h' e C d fld v → R (.ok (.ret (.ref e))) { s with heap := h', toks := tk }) :
    codeAny (model prog w) A (.call (.ref C) ⟨[v], []⟩) R s := by
  obtain ⟨nm, q, N, bs, bm, sn, sub, ab, col, dd, k0, k1, k2, k3, k5, hC, hbm⟩ := T.cls
  obtain ⟨hp, g, dr, tk, os⟩ := s
  have k : ∀ b o, hp.get? b = some o → ((hp.push (kdv_tup [v])).push (excO C hp.objs.size)).get? b = some o := fun b o z => Heap.get?_push_of_some _ (Heap.get?_push_of_some _ z)
  have hget : ((hp.push (kdv_tup [v])).push (excO C hp.objs.size)).get? (hp.objs.size + 1) = some (excO C hp.objs.size) := by heap_get
  have hnx : K.lookup (hp.objs.size + 1) = none := by
    cases z : K.lookup (hp.objs.size + 1) with
    | none => rfl
    | some o =>
      have y : hp.get? (hp.objs.size + 1) = some o := X _ _ z
      exact absurd (Nat.lt_of_succ_lt (Heap.lt_size y)) (Nat.lt_irrefl _)
  obtain ⟨mb, hmb, hbb⟩ := hb
  refine call_own F.excBase_ValueError (fun Y => refsVE_contains Y bm hbm) (X _ _ hC) (looks_findIn X T.iC) (fun self => bind_fn X self T.tC) (one_line v) ?_
  refine begins (s := ⟨(hp.push (kdv_tup [v])).push (excO C hp.objs.size), g, dr, tk, os⟩) T Fo (X.keeps k) (hlim.keeps k) (hg.keeps k) ⟨mb, hmb.keeps k, hbb⟩ hget hnx ?_ fun h' tk' dx B => ?_
  · show A.depth + 1 < recursionLimit
    exact hroom
  · obtain ⟨t1, hx⟩ := B.obj
    have old : ∀ b o, hp.get? b = some o → h'.get? b = some o := fun b o z => B.keep b o (Nat.ne_of_lt (Nat.lt_succ_of_lt (Heap.lt_size z))) (k b o z)
    have z : hp.objs.size + 1 + 1 ≤ dx := by
      have y := B.dbig
      first
        | exact y
        | (rw [Heap.size_push, Heap.size_push] at y; exact y)
        | (simpa only [Heap.size_push] using y)
    exact ⟨rfl, hq h' tk' (hp.objs.size + 1) dx ⟨old, Nat.le_succ _, ⟨_, _, hx, rfl, rfl, rfl, rfl⟩, Nat.le_trans (Nat.le_trans (Nat.le_succ _) (Nat.le_succ _)) z, B.dne, B.ns⟩⟩
end
end Vx
end PySem

namespace L2
open PySem PySem.Spec PyProof.Rows
theorem relO_fld {v : V} {v' : Value} (fld : Str) (r : RelV v v') (f : Str) : RelO (List.lookup f [(fld, v)]) (if f = fld then some v' else none) := by
  by_cases hw : f = fld
  · subst hw
    rw [if_pos rfl, List.lookup_cons, beq_self_eq_true]
    exact r
  · have qw : (f == fld) = false := by simpa using hw
    rw [if_neg hw, List.lookup_cons, qw]
    trivial
section
variable {X : Cx} {x fld qual : Str} {C fI : Addr}
/-- x(e), x such a class: the error's own dict is new and holds the field -/
def tMkE (fld : Str) (C : Addr) (ta : TA) : St → Hp → XK → Prop := fun σ H Q => ta σ H fun vs H1 => ∃ v, vs = [v] ∧ ∀ d, H1 d = none → Q (.ref C) (some d) (upd H1 d (.xd [(fld, v)]))
theorem pmk_err {a : Expr} {ta : TA} {p pos : Pos} {k : Nat} (T : PySem.Vx.ErrTxt X.prog X.K X.mg x fld qual C fI) (Fo : PySem.Vx.FldOk fld) (hr : Room k X.A) (ha : PA X [a] ta) (hg : Gl X x := by rfl)
    (hdb : (x == ("__debug__" : Str)) = false := by decide) (he : starEach (a :: []) X.env = (false, eval a X.env) :: starEach [] X.env := by rfl) (hpl : (backTo pos (starEach [] X.env)).any (·.1) = false := by rfl) :
    PMk X (.Call (.Name x p) [a] [] pos) (tMkE fld C ta) := by
  intro pins s σ H Q I h
  refine wpAny_Call_Name_kw (ld_glob I hg T.gC ?_ hdb)
  refine PySem.W.callWith_K (h₀ := X.base) I.ok.mod.kin T.kC (thn (ha.run pos pins s σ H _ I h) fun us s1 hh => ?_) he hpl
  obtain ⟨vs, H1, I1, r1, v, ev, q1⟩ := hh
  subst ev
  refine ⟨I1.kIn, ?_⟩
  cases r1 with
  | cons rv rn =>
    rename_i v' us'
    cases rn
    show wpAny _ _ (call (.ref C) [v']) _ _ _
    have hlim := I1.nolimit
    have hbk := I1.bk
    have hmod := I1.ok.mod
    obtain ⟨hp, g, dr, tk, os⟩ := s1
    obtain ⟨mb, hmb, hbb⟩ := hmod.blt
    refine wpAny_call (PySem.Vx.making T Fo I1.kIn hlim (hmod.glob.keeps hbk) ⟨mb, hmb.keeps hbk, hbb⟩ (by have := hr.dp; omega) fun h' tk' e d M => ?_)
    show MkP X pins σ Q (.ref e) ⟨h', g, dr, tk', os⟩
    obtain ⟨oe, fv, hoe, hc, hd, hdat, h1⟩ := M.obj
    have hns := M.ns
    obtain ⟨G', g1, g2⟩ := restrict h' fun b => decide (b ≠ e)
    have gk : ∀ b, b ≠ e → G'.get? b = h'.get? b := fun b hb => g1 b (decide_eq_true hb)
    have ge : G'.get? e = none := g2 e (by simp)
    have old : ∀ b o, hp.get? b = some o → G'.get? b = some o := fun b o q => (gk b (Nat.ne_of_lt (Nat.lt_of_lt_of_le (Heap.lt_size q) M.new))).trans (M.keep b o q)
    have ob : ObjOk X.prog X.w (upd H1 d (.xd [(fld, v)])) G' d (.xd [(fld, v)]) := ⟨_, hns.at (fun o q => (gk d M.dne).trans q), fun f => relO_fld fld rv f⟩
    have J : Inv X pins σ (upd H1 d (.xd [(fld, v)])) ⟨G', g, dr, tk', os⟩ := I1.laid (t' := tk') old M.dbig ob
    refine ⟨e, oe, fv, ⟨G', g, dr, tk', os⟩, _, .ref C, some d, rfl, J, fun b o q => ?_, ge, hoe, ⟨hc, hd⟩, hdat, h1, ?_, rfl, I1.bare, raises_own T.exC T.tyC, q1 d (I1.hok.fresh M.dbig)⟩
    · by_cases hb : b = e
      · have q' : G'.get? b = some o := q
        rw [hb, ge] at q'
        cases q'
      · exact (gk b hb).symm.trans q
    · rw [upd_ne (Ne.symm M.dne)]
      exact I1.hok.fresh M.new
/-- raise x(e) -/
def tRaiseE (fld : Str) (C : Addr) (W : WX) (ta : TA) : TS := fun _ σ H => tMkE fld C ta σ H fun cls d H' => W cls d σ H'
theorem ps_raiseE {a : Expr} {ta : TA} {W : WX} {p pos pos2 : Pos} {k : Nat} (hc : X.calm = true) (T : PySem.Vx.ErrTxt X.prog X.K X.mg x fld qual C fI) (Fo : PySem.Vx.FldOk fld) (hr : Room k X.A) (tk : Takes X W) (ha : PA X [a] ta) (hg : Gl X x := by rfl)
    (hdb : (x == ("__debug__" : Str)) = false := by decide) (he : starEach (a :: []) X.env = (false, eval a X.env) :: starEach [] X.env := by rfl) (hpl : (backTo pos (starEach [] X.env)).any (·.1) = false := by rfl) :
    PS X (.Raise (some (.Call (.Name x p) [a] [] pos)) none pos2) (tRaiseE fld C W ta) := ps_raise hc tk (pmk_err T Fo hr ha hg hdb he hpl)
/-- n.fld, n the error that an except suite holds (at a; its class cls, its dict d) -/
def tByE (fld : Str) (C : Addr) (a : Addr) (cls : Value) (d : Option Addr) (te : TE) : TE := fun σ H Q => te σ H fun x H1 => x = .ref a ∧ cls = .ref C ∧ ∃ (dd : Addr) (v : V), d = some dd ∧ H1 dd = some (.xd [(fld, v)]) ∧ Q v H1
theorem pe_byE {a : Addr} {oe : Obj} {cls : Value} {d : Option Addr} {pn : List (Addr × Obj)} {e : Expr} {te : TE} {pos : Pos} (T : PySem.Vx.ErrTxt X.prog X.K X.mg x fld qual C fI) (hz : Zc cls d oe) (hf : ∃ vs, oe.data = .fields vs) (he : PE (X.suite a ((a, oe) :: pn)) e te)
    (hb : attributeBase e fld X.env (eval e X.env) = eval e X.env := by rfl) :
    PE (X.suite a ((a, oe) :: pn)) (.Attribute e fld pos) (tByE fld C a cls d te) := by
  refine ⟨fun pins s σ H Q I h => ?_⟩
  refine attr_of hb (thn (he.run pins s σ H _ I h) fun u s1 hh => ?_)
  obtain ⟨y, H1, I1, rx, ex, ec, dd, v, ed, ea, q⟩ := hh
  subst ex
  obtain rfl : u = Value.ref a := rx
  subst ec
  subst ed
  obtain ⟨ha, _⟩ := I1.pin (a, oe) (List.mem_append_left _ List.mem_cons_self)
  obtain ⟨vs, hd⟩ := hf
  have hx : ObjOk X.prog X.w H1 s1.heap dd (.xd [(fld, v)]) := I1.hok dd _ ea
  obtain ⟨mA, hns, hr⟩ := hx
  obtain ⟨od, ho, hl⟩ := lookIn_ns hns
  have l : List.lookup fld [(fld, v)] = some v := by rw [List.lookup_cons, beq_self_eq_true]
  obtain ⟨u, hu, ru⟩ := RelO.some_of (v := v) (o := mA fld) (by rw [← l]; exact hr fld)
  have J : PySem.W.InstAt s1.heap a oe C (some od) := ⟨ha, hz.1, by unfold PySem.W.notCls; rw [hd] <;> rfl, by rw [hz.2]; exact ho⟩
  exact HandSPX.exc_get I1.kIn J T.ga T.gg T.exC (PySem.W.findObj_own T.hdC T.noN rfl (by rw [hl, hu])) (handed_of ru) ⟨v, H1, I1.tok _, ru, q⟩
end
end L2


/-! # An own error made with nothing; several except clauses, some with a name -/
namespace L2
open PySem PySem.Spec PyProof.Rows
section
variable {X : Cx} {pos : Pos}
/-- x(), x an own class of errors without an __init__ of its own -/
theorem pmk_own0 {C : Addr} {bmB : List Value} {B newId initId : String} {x : Str} {p : Pos} (F : ExcBaseFacts B newId initId bmB) (q : PySem.W.excIn X.K C bmB newId = true) (gC : X.mg x = some (.ref C))
    (kC : PySem.W.keepIn X.K (.ref C) = true) (r : Raises X (.ref C)) (hg : Gl X x) (hdb : (x == ("__debug__" : Str)) = false := by decide) :
    PMk X (.Call (.Name x p) [] [] pos) (fun _ H Q => Q (.ref C) none H) := by
  intro pins s σ H Q I h
  refine wpAny_Call_Name_kw (ld_glob I hg gC ?_ hdb)
  refine PySem.W.callWith_K0 I.kIn kC ?_
  obtain ⟨bm, N, nm, qn, bs, hdct, sn, sub, ab, col, dd, k0, k1, k2, k3, k5, mN, hC, hN, hni, T⟩ := exc_obj I.kIn q
  refine wpAny_call_exc_subT F T hC hN hni (fun h' e hm => ?_) (Nat.zero_le _)
  exact mk_of I hm r h (I.hok.gone hm.new)
end
/-! ### try with clauses of both kinds -/
/-- one clause: the class that it names, the slot of its name (none: it has none), its suite's reading -/
structure Cl1 where
  c : Value
  nm : Option Nat
  ts : Addr → Value → Option Addr → TS
/-- the ends of a suite whose name is taken away behind it -/
def offEnds (o : Option Nat) (D : Ends) : Ends := match o with
  | none => D
  | some i => { nx := fun σ H => D.nx (σ.set i none) H, rt := D.rt, bk := fun σ H => D.bk (σ.set i none) H, ct := fun σ H => D.ct (σ.set i none) H }
def onSlot (o : Option Nat) (a : Addr) (σ : St) : St := match o with
  | none => σ
  | some i => σ.set i (some (.ref a))
/-- what the clauses wish of an error of the body, one after the other -/
def wMix (K : PySem.W.Frag) (Wout : WX) (D : Ends) : List Cl1 → WX
  | [] => Wout
  | k :: r => fun cls d σ H => ∃ b, PySem.W.exmOne K cls k.c = some b ∧ (b = true → ∀ a, H a = none → k.ts a cls d (offEnds k.nm D) (onSlot k.nm a σ) H) ∧ (b = false → wMix K Wout D r cls d σ H)
inductive ClsOk (X : Cx) : List ExceptHandler → List Cl1 → Prop
  | nil : ClsOk X [] []
  | plain {x : Str} {c : Value} {ts : Addr → Value → Option Addr → TS} {b₀ : Stmt} {suite : List Stmt} {np pos' : Pos} {hds : List ExceptHandler} {l : List Cl1} (hc : Names X x c)
      (hsu : ∀ (a : Addr) (oe : Obj) (cls : Value) (d : Option Addr) (pn : List (Addr × Obj)), Zc cls d oe → (∃ vs, oe.data = .fields vs) → PSs (X.suite a ((a, oe) :: pn)) (b₀ :: suite) (ts a cls d)) (r : ClsOk X hds l) :
      ClsOk X (.ExceptHandler (some (.Name x np)) none (b₀ :: suite) pos' :: hds) (⟨c, none, ts⟩ :: l)
  | named {x n : Str} {i : Nat} {c : Value} {ts : Addr → Value → Option Addr → TS} {b₀ : Stmt} {suite : List Stmt} {np pos' : Pos} {hds : List ExceptHandler} {l : List Cl1} (hi : X.N[i]? = some n) (hln : X.env.kindOf n = some .local) (hc : Names X x c)
      (hsu : ∀ (a : Addr) (oe : Obj) (cls : Value) (d : Option Addr) (pn : List (Addr × Obj)), Zc cls d oe → (∃ vs, oe.data = .fields vs) → PSs (X.suite a ((a, oe) :: pn)) (b₀ :: suite) (ts a cls d)) (r : ClsOk X hds l) :
      ClsOk X (.ExceptHandler (some (.Name x np)) (some n) (b₀ :: suite) pos' :: hds) (⟨c, some i, ts⟩ :: l)
section
variable {X : Cx} {body : List Stmt} {h₀ : ExceptHandler} {hds : List ExceptHandler} {l : List Cl1} {pos : Pos} {tb : WX → TS} {Wout : WX}
theorem ps_try_mix (hs : X.stack = X.env :: X.outer) (hf : X.env.frame = some X.env.locals) (hN : X.N.Nodup) (tk : Takes X Wout)
    (hb : ∀ (W : WX) (pn : List (Addr × Obj)) (xe : Value → Shared → Prop), Takes (X.tr pn xe) W → PassesOwn (model X.prog X.w) X.A X.env xe → PSs (X.tr pn xe) body (tb W))
    (hh : ClsOk X (h₀ :: hds) l) : PS X (.Try body (h₀ :: hds) [] [] pos) (fun D σ H => tb (wMix X.K Wout D l) D σ H) := by
  refine ⟨fun pins s σ H D I h => ?_⟩
  have okX := I.ok
  have frX : X.A.frames = some (X.env :: X.outer) := by rw [okX.frames, hs]
  refine wpAny_Try_except ?_
  refine wpAny_mono ((hb (wMix X.K Wout D l) (X.pn ++ pins) (fun e s₁ => wpAny (model X.prog X.w) X.A (noteFrame e X.env) (fun _ s₂ =>
    wpAny (model X.prog X.w) X.A (setFlight e none) (fun _ s₃ => wpAny (model X.prog X.w) X.A (handleBy e X.env (h₀ :: hds)) (SP X pins D) X.xe s₃) X.xe s₂) X.xe s₁) (fun u s' xx => ?_) PassesOwn.looking).run [] s σ H D (I.toTry _) h)
    (fun f s1 hsp => ?_) (fun e s1 he => he)
  · obtain ⟨a, B, sI, pins', σ', H', cls, d, rfl, J', nb, up, sky, na, os, ag, wsh⟩ := xx
    have J : Inv X pins σ' H' sI := J'.ofTry okX
    have skyX : Sky B (X.env :: X.outer) a (Zc cls d) X.env.locals s'.heap := by rw [← hs]; exact sky
    show wpAny (model X.prog X.w) X.A (noteFrame (.ref a) X.env) _ _ _
    refine Sky.land Zc.steady frX hf skyX fun h3 fl3 up3 => ?_
    have J3 : Inv X pins σ' H' { s' with heap := h3 } := J.landed nb fl3.1 (up.trans up3) os ag
    obtain ⟨oe3, vs3, he3, hz3, hd3⟩ := fl3.there
    have offFr : a ∉ frs (X.env :: X.outer) := fun hm => by
      obtain ⟨_, o', e', hnf⟩ := fl3.2.2.1.mem hm
      rw [he3] at e'
      cases e'
      exact hnf _ hd3
    have nL : a ≠ X.env.locals := fun z => offFr (List.mem_filterMap.mpr ⟨X.env, List.mem_cons_self, by rw [hf, z]⟩)
    have nF : a ∉ X.fs := fun hm => by
      obtain ⟨e, he, q⟩ := List.mem_filterMap.mp hm
      exact offFr (List.mem_filterMap.mpr ⟨e, List.mem_cons_of_mem _ he, q⟩)
    have S3 := J3.suite he3 hd3 na nL nF
    have LT : PySem.W.Looks (model X.prog X.w) h3 (typeOf (.ref a)) cls := fun A Q E s k q => wpAny_typeOf_ref (k _ _ he3) (by rw [hz3.1]; exact q)
    have test : ∀ {x : Str} {np : Pos} {c : Value} {Q : Value → Shared → Prop} {E : Value → Shared → Prop}, Names X x c → Q c { s' with heap := h3 } →
        wpAny (model X.prog X.w) (X.A.mark (some (.ref a))) (eval (.Name x np) X.env) Q E { s' with heap := h3 } := fun {x np c Q E} hc q => by
      obtain ⟨hg, hdbg, hm | ⟨hm, hv, hnn⟩⟩ := hc
      · exact ld_glob (X := X.suite a ((a, oe3) :: (X.pn ++ pins))) S3 hg hm q hdbg
      · exact ld_blt (X := X.suite a ((a, oe3) :: (X.pn ++ pins))) S3 hg hm hv q hnn hdbg
    have go : ∀ {hds' : List ExceptHandler} {l' : List Cl1}, ClsOk X hds' l' → wMix X.K Wout D l' cls d σ' H' → wpAny (model X.prog X.w) X.A (handleBy (.ref a) X.env hds') (SP X pins D) X.xe { s' with heap := h3 } := by
      intro hds' l' hk
      induction hk with
      | nil =>
        intro w
        refine wpAny_handleBy_nil ?_
        obtain ⟨k1, k2, k3, oe, vs, T, oT, ts', he, hz, hd, h1, hr⟩ := id fl3
        unfold PySem.passOn
        refine wpAny_bind (wpAny_field he hd h1 ?_)
        rw [if_neg (show ¬ ((Value.ref T == Value.none) = true) from by simp)]
        have outgo : wpAny (model X.prog X.w) X.A (setFlight (.ref a) X.env.frame) (fun _ s4 => wpAny (model X.prog X.w) X.A (throw (.ref a) : Sem Flow) (SP X pins D) X.xe s4) X.xe { s' with heap := h3 } := by
          rw [hf]
          refine HandSPX.setFlight_upZ fl3 fun h4 hh4 up4 => wpAny_throw (tk _ _ ?_)
          exact ⟨a, B, sI, pins, σ', H', cls, d, rfl, J, nb, (up.trans up3).trans up4, .inr (.inr (by rw [hs]; exact hh4)), na, os, ag, w⟩
        first
          | exact wpAny_bind (wpAny_pure (wpAny_bind outgo))
          | exact wpAny_bind outgo
      | @plain x c ts b₀ suite np pos' hds2 l2 hc hsu r ih =>
        intro w
        obtain ⟨b, hb1, hyes, hno⟩ := w
        refine wpAny_handleBy_cons (codeAny_handlers_test ?_) (by intro q; cases q)
        have LM := PySem.W.exm_one (M := model X.prog X.w) (J3.kIn) LT hb1
        refine test hc (LM.here ?_)
        cases b with
        | true =>
          refine codeAny_handlers_suite ?_
          refine HandSPX.lands_againZ fl3 fun h4 fl4 up4 => ?_
          have J4 : Inv X pins σ' H' { s' with heap := h4 } := J.landed nb fl4.1 ((up.trans up3).trans up4) os ag
          obtain ⟨oe4, vs4, he4, hz4, hd4⟩ := fl4.there
          have S4 := J4.suite he4 hd4 na nL nF
          refine wpAny_mono ((hsu a oe4 cls d (X.pn ++ pins) hz4 ⟨_, hd4⟩).run [] _ _ H' _ S4 (hyes rfl a na)) (fun f s6 hsp => ?_) (fun _ _ z => False.elim z)
          cases f with
          | ret u =>
            obtain ⟨v6, σ6, H6, S6, r6, q6⟩ := hsp
            exact ⟨_, _, _, S6.unsuite okX, r6, q6⟩
          | next =>
            obtain ⟨σ6, H6, S6, q6⟩ := hsp
            exact ⟨_, _, S6.unsuite okX, q6⟩
          | brk =>
            obtain ⟨σ6, H6, S6, q6⟩ := hsp
            exact ⟨_, _, S6.unsuite okX, q6⟩
          | cont =>
            obtain ⟨σ6, H6, S6, q6⟩ := hsp
            exact ⟨_, _, S6.unsuite okX, q6⟩
        | false =>
          show wpAny _ X.A (handleBy (.ref a) X.env hds2) _ _ _
          exact ih (hno rfl)
      | @named x n i c ts b₀ suite np pos' hds2 l2 hi hln hc hsu r ih =>
        intro w
        obtain ⟨b, hb1, hyes, hno⟩ := w
        refine wpAny_handleBy_cons (codeAny_handlers_test ?_) (by intro q; cases q)
        have LM := PySem.W.exm_one (M := model X.prog X.w) (J3.kIn) LT hb1
        refine test hc (LM.here ?_)
        cases b with
        | true =>
          refine codeAny_handlers_suite_as ?_
          refine HandSPX.lands_againZ fl3 fun h4 fl4 up4 => ?_
          have J4 : Inv X pins σ' H' { s' with heap := h4 } := J.landed nb fl4.1 ((up.trans up3).trans up4) os ag
          obtain ⟨oe4, vs4, he4, hz4, hd4⟩ := fl4.there
          have S4 := J4.suite he4 hd4 na nL nF
          refine store_ok (X := X.suite a ((a, oe4) :: (X.pn ++ pins))) (v := .ref a) S4 hN hi (.inl hln) rfl (fun s5 S5 => ?_) (.inr hln)
          refine wpAny_mono ((hsu a oe4 cls d (X.pn ++ pins) hz4 ⟨_, hd4⟩).run [] s5 _ H' _ S5 (hyes rfl a na)) (fun f s6 hsp => ?_) (fun _ _ z => False.elim z)
          have offN : ∀ {σ6 : St} {H6 : Hp} {Q : Shared → Prop}, Inv (X.suite a ((a, oe4) :: (X.pn ++ pins))) [] σ6 H6 s6 → (∀ s7, Inv X pins (σ6.set i none) H6 s7 → Q s7) →
              wpAny (model X.prog X.w) X.A (do bindName X.env n .none; unbindBehindTheSuite X.env n pos') (fun _ s7 => Q s7) X.xe s6 := fun {σ6 H6 Q} S6 hq => gone_ok (S6.unsuite okX) hN hi hln hq
          cases f with
          | ret u =>
            obtain ⟨v6, σ6, H6, S6, r6, q6⟩ := hsp
            exact offN S6 fun s7 J7 => ⟨_, _, _, J7, r6, q6⟩
          | next =>
            obtain ⟨σ6, H6, S6, q6⟩ := hsp
            exact offN S6 fun s7 J7 => ⟨_, _, J7, q6⟩
          | brk =>
            obtain ⟨σ6, H6, S6, q6⟩ := hsp
            exact offN S6 fun s7 J7 => ⟨_, _, J7, q6⟩
          | cont =>
            obtain ⟨σ6, H6, S6, q6⟩ := hsp
            exact offN S6 fun s7 J7 => ⟨_, _, J7, q6⟩
        | false =>
          show wpAny _ X.A (handleBy (.ref a) X.env hds2) _ _ _
          exact ih (hno rfl)
    exact go hh wsh
  · cases f with
    | ret u =>
      obtain ⟨v, σ', H', J', r, q⟩ := hsp
      exact ⟨v, σ', H', J'.ofTry okX, r, q⟩
    | next =>
      obtain ⟨σ', H', J', q⟩ := hsp
      exact wpAny_execs_nil ⟨σ', H', J'.ofTry okX, q⟩
    | brk =>
      obtain ⟨σ', H', J', q⟩ := hsp
      exact ⟨σ', H', J'.ofTry okX, q⟩
    | cont =>
      obtain ⟨σ', H', J', q⟩ := hsp
      exact ⟨σ', H', J'.ofTry okX, q⟩
end
end L2


/-! # enumerate of a tuple, walked with a target of several names -/
namespace PySem
section
/-- enumerate.__new__ over anything whose iterator is one new object -/
theorem meets_enum1 {v : Value} {o : Obj} {G : Heap → Prop} (B : Begins v o G) :
    Meets (Builtin.«enumerate.__new__» ⟨[.type "enumerate", v], []⟩) (fun _ R s => G s.heap ∧
      R (.ok (.ret (.ref (s.heap.push o).objs.size))) { s with heap := (s.heap.push o).push { cls := .type "enumerate", data := .fields #[.none, .bool false, .ref s.heap.objs.size, rawInt 0, .none, .none] } }) :=
  .of_wp fun prog w A R s hs => by
    obtain ⟨hp, g, d, tk, os⟩ := s
    obtain ⟨hG, hR⟩ := hs
    have hsub := sub_enumerate
    have q1 : ∀ {A' : Around} {E : Value → Shared → Prop} {Q : Value → Shared → Prop}, Q (.ref hp.objs.size) ⟨hp.push o, g, d, tk, os⟩ → wpAny (model prog w) A' (pyIter v) Q E ⟨hp, g, d, tk, os⟩ :=
      fun q => B.iter prog w _ _ ⟨hp, g, d, tk, os⟩ _ hG q
    wp_walk using q1
    refine wpAny_stack_any fun st => wpAny_pure ?_
    split
    · rename_i c _ _ _ _ _
      cases (c == Value.type "enumerate") <;> (wp_walk using q1; exact ⟨_, rfl, hR⟩)
    · wp_walk using q1
      exact ⟨_, rfl, hR⟩
variable {prog : Program} {w : World} {A : Around} {E : Value → Shared → Prop} {s : Shared}
theorem call_enum1 {v : Value} {o : Obj} {G : Heap → Prop} {Q : Value → Shared → Prop} (B : Begins v o G) (hG : G s.heap)
    (h : ∀ h', IsEnum h' (s.heap.objs.size + 1) s.heap.objs.size 0 .none → h'.get? s.heap.objs.size = some o → (∀ b u, s.heap.get? b = some u → h'.get? b = some u) → Q (.ref (s.heap.objs.size + 1)) { s with heap := h' }) :
    wpAny (model prog w) A (call (.type "enumerate") [v]) Q E s := by
  refine callType_new F.called_enumerate (by decide) (F.typeCall_enumerate_1 _) (F.newCall_enumerate_1 _) (fun obj => F.args_object_init_2 obj _) F.entry_enumerate_new (meets_enum1 B) ⟨hG, ?_⟩
  have hz : (s.heap.push o).objs.size = s.heap.objs.size + 1 := Heap.size_push ..
  show _ ∧ _
  rw [hz]
  have he : IsEnum ((s.heap.push o).push { cls := .type "enumerate", data := .fields #[.none, .bool false, .ref s.heap.objs.size, rawInt 0, .none, .none] }) (s.heap.objs.size + 1) s.heap.objs.size 0 .none := by
    have := Heap.get?_push_size (s.heap.push o) (o := { cls := .type "enumerate", data := .fields #[.none, .bool false, .ref s.heap.objs.size, rawInt 0, .none, .none] }) rfl
    rw [hz] at this
    exact this
  exact ⟨⟨_, he, rfl⟩, h _ he (Heap.get?_push_of_some _ (Heap.get?_push_size _ B.free)) fun b u x => Heap.get?_push_of_some _ (Heap.get?_push_of_some _ x)⟩
end
end PySem

namespace L2
open PySem PySem.Spec PyProof.Rows
/-- the tuple at a, each item in a new pair with its number -/
def Itet (K : PySem.W.Frag) (a : Addr) : It :=
  ⟨fun i H => ∃ (xs : List V) (x : V), SqT K H a xs ∧ xs[i]? = some x,
   fun i H v H' => ∃ T x, v = .ref T ∧ H T = none ∧ H' = upd H T (.tup [.int (i : Nat), x]) ∧ ∀ xs, SqT K H a xs → xs[i]? = some x,
   fun i H => ∃ xs : List V, SqT K H a xs ∧ xs.length ≤ i⟩
theorem turn_enumT {P : Program} {w : World} {K : PySem.W.Frag} {elts : List Expr} {kk : Nat} {tpos : Pos} (a e it : Addr) :
    Turn P w K (.Tuple elts kk tpos) (Itet K a) [e, it] e (fun i h => (∃ old, IsEnum h e it ((i : Nat) : Int) old) ∧ h.IsTupleIter it a i ∧ e ≠ it ∧ a ≠ it ∧ e ≠ a) where
  mem := by simp
  obj := fun i h st b hb => by
    obtain ⟨⟨old, he⟩, ⟨o, ho, hc, hd⟩, _⟩ := st
    rcases (show b = e ∨ b = it by simpa using hb) with z | z
    · exact z ▸ ⟨_, he, fun v q => nomatch q⟩
    · exact z ▸ ⟨o, ho, fun v q => by rw [hd] at q; cases q⟩
  keep := fun i h h' st k => by
    obtain ⟨⟨old, he⟩, hi, hne⟩ := st
    exact ⟨⟨old, k e (by simp) _ he⟩, hi.at fun o q => k it (by simp) o q, hne⟩
  item := by
    intro X hP hw hK hc i pins s σ H E I hf st hgo
    subst hP hw hK
    obtain ⟨⟨old, he⟩, hit, hne, hat, hea⟩ := st
    obtain ⟨xs, x, hq, hx⟩ := hgo
    obtain ⟨its, rv, p, hz⟩ := I.tuple hq
    obtain ⟨u, hu, ru⟩ := rv.get hx
    have hel : e < s.heap.objs.size := Heap.lt_size he
    have hil : it < s.heap.objs.size := by obtain ⟨_, q, _⟩ := hit; exact Heap.lt_size q
    have hlt : i < its.toArray.size := by
      have := (List.getElem?_eq_some_iff.mp hu).1
      simpa using this
    have hd0 : X.A.in1.handled = none := I.ok.hd hc
    refine wpAny_pyNext_enum_itemC (Draws.tuple hd0 it a hat its.toArray) he ⟨hit, p⟩ hlt hne (fun z => ?_) fun u' h' tk hu' ho hst hT hsz hk => ?_
    · rcases (show e = it ∨ e = a by simpa using z) with z | z
      · exact hne z
      · exact hea z
    have eu : u' = u := by
      have q : its[i]? = some u' := by simpa using hu'
      rw [hu] at q
      exact (Option.some.inj q).symm
    subst eu
    refine ⟨_, rfl, wpAny_letOwnedTupleGo_enum (s := { s with heap := h', toks := tk + 1 }) ho fun h2 he2 sb => ?_⟩
    have hT2 : h2.get? s.heap.objs.size = some { cls := .type "tuple", data := .seq #[.int i tk, u'] } := (sb.2 _ (Nat.ne_of_gt hel)).trans hT
    have made : ObjOk X.prog X.w (upd H s.heap.objs.size (.tup [.int (i : Nat), x])) h2 s.heap.objs.size (.tup [.int (i : Nat), x]) :=
      ⟨by show 2 ≤ sizeLine; decide, [.int i tk, u'], .cons ⟨_, rfl⟩ (.cons ru .nil), ⟨_, hT2, rfl, _, rfl⟩⟩
    have I1 : Inv X pins σ (upd H s.heap.objs.size (.tup [.int (i : Nat), x])) { s with heap := h2, toks := tk + 1 } :=
      I.turnedNew (ch := [e, it]) (fun b ob hb q => (sb.2 b (fun z => hb (by simp [z]))).trans (hk b ob (fun z => hb (by simp [z])) (fun z => hb (by simp [z])) q)) hf (Nat.le_refl _) made
    refine ⟨.ref s.heap.objs.size, _, I1, rfl, ⟨_, x, rfl, I.hok.fresh (Nat.le_refl _), rfl, fun ys hy => by rw [I.tuple_inj hy hq]; exact hx⟩, ⟨⟨u', ?_⟩, hst.1.at fun o q => (sb.2 it (Ne.symm hne)).trans q, hne, hat, hea⟩, fun b hb => ?_⟩
    · have e1 : ((i + 1 : Nat) : Int) = (i : Int) + 1 := by omega
      rw [e1]
      exact he2
    · have hb' : b < s.heap.objs.size := by
        rcases (show b = e ∨ b = it by simpa using hb) with z | z
        · exact z ▸ hel
        · exact z ▸ hil
      rw [upd_ne (Nat.ne_of_lt hb')]
      exact (hf b hb).1
  done := by
    intro X hP hw hK hc i pins s σ H E I hf st hstop
    subst hP hw hK
    obtain ⟨⟨old, he⟩, hit, hne, hat, hea⟩ := st
    obtain ⟨xs, hq, hx⟩ := hstop
    obtain ⟨its, rv, p, hz⟩ := I.tuple hq
    obtain ⟨f0, f1, f2, f3, f4, f5⟩ := hf it (by simp)
    have hl := rv.length
    have hd0 : X.A.in1.handled = none := I.ok.hd hc
    have D : Draws X.prog X.w X.A.in1 it [it, a] i (fun _ _ => True) (fun j h => j = i ∧ h.IsTupleIter it a i ∧ h.IsTuple a its.toArray) :=
      { live := fun _ _ st => let ⟨o, ho, _⟩ := st.2.1; ⟨o, ho⟩
        frame := fun _ _ _ st hk => ⟨st.1, st.2.1.at fun o e => hk it (by simp) o e, st.2.2.at fun o e => hk a (by simp) o e⟩
        item := fun j s Q E hj st _ => absurd st.1 (Nat.ne_of_lt hj)
        done := fun s Q E st hE => wpAny_nextOf_tuple_end hd0 st.2.1 st.2.2 (by simp; omega) hE }
    exact wpAny_pyNext_enum_endD D he ⟨rfl, hit, p⟩ fun h' eb => ⟨rfl, I.turned (t' := s.toks) (fun b o hb q => eb b o hb q) f0 f1 f3 f4 f5⟩
  self := fun A i s Q E st h => by
    obtain ⟨⟨_, he⟩, _⟩ := st
    exact wpAny_pyIter_enum he h
def iEnumT (K : PySem.W.Frag) (ta : TA) : TI := fun σ H R => ta σ H fun vs H1 => ∃ a xs, vs = [.ref a] ∧ SqT K H1 a xs ∧ R (Itet K a) H1
theorem pi_enumT {X : Cx} {e : Expr} {ta : TA} {p pos tpos : Pos} {elts : List Expr} {kk : Nat} (hg : Gl X "enumerate") (hm : X.mg "enumerate" = none) (ha : PA X [e] ta) (hs : starEach [e] X.env = [(false, eval e X.env)] := by rfl) :
    PI X (.Tuple elts kk tpos) (.Call (.Name "enumerate" p) [e] [] pos) (iEnumT X.K ta) := by
  refine ⟨fun pins s σ H R I h => ?_⟩
  refine Call_ (ld_blt I hg hm boot_enumerate (PyProof.Rows.callWith_type1 (thn (ha.run pos pins s σ H _ I h) fun us s1 hh => ?_) hs rfl))
  obtain ⟨vs, H1, I1, r1, a, xs, ex, hq, q⟩ := hh
  subst ex
  cases r1 with
  | cons r rr =>
    cases rr
    cases r
    obtain ⟨its, rv, p', hz⟩ := I1.tuple hq
    have hal : a < s1.heap.objs.size := IsTup.lt p'
    refine call_enum1 (begins_tuple a its.toArray) p' fun h' he hit hk => wpAny_pyIter_enum he ?_
    have I2 : Inv X pins σ H1 { s1 with heap := h' } := I1.kept (t' := s1.toks) hk
    refine ⟨s1.heap.objs.size + 1, [s1.heap.objs.size + 1, s1.heap.objs.size], _, _, H1, rfl, I2, turn_enumT a (s1.heap.objs.size + 1) s1.heap.objs.size,
      ⟨⟨.none, he⟩, ⟨_, hit, rfl, rfl⟩, Nat.succ_ne_self _, Nat.ne_of_lt hal, Nat.ne_of_gt (Nat.lt_succ_of_lt hal)⟩, fun b hb => ?_, q⟩
    have hle : s1.heap.objs.size ≤ b := by
      rcases (show b = s1.heap.objs.size + 1 ∨ b = s1.heap.objs.size by simpa using hb) with z | z
      · exact z ▸ Nat.le_add_right _ _
      · exact z ▸ Nat.le_refl _
    exact I1.fpOk hle (I1.hok.fresh hle)
theorem walk_enumT {K : PySem.W.Frag} {a : Addr} {xs : List V} : Walk (Itet K a) xs.length (fun H => SqT K H a xs) (YPair (fun i => some (.int (i : Nat))) (fun i => xs[i]?)) where
  goes := fun i H hi h => ⟨xs, xs[i], h, List.getElem?_eq_getElem hi⟩
  stops := fun H h => ⟨xs, h, Nat.le_refl _⟩
  yields := fun i H x H' hi h y => by
    obtain ⟨T, z, ev, hT, eH, q⟩ := y
    exact ⟨T, _, z, ev, hT, eH, rfl, q xs h⟩
end L2


/-! # Data without a heap: values by what they are, states by what they hold -/
namespace Ab
open PySem L2
/-- data that nobody changes while it is held -/
inductive D where
  | non | bl (b : Bool) | int (i : Int) | str (s : Str) | tup (ds : List D) | lst (ds : List D) | dct (ks : List (Str × D))
  /-- a tuple whose object is known -/
  | xt (ds : List D)
/-- what knows less -/
def Ex (G H : Hp) : Prop := ∀ a o, G a = some o → H a = some o
theorem Ex.refl (H : Hp) : Ex H H := fun _ _ h => h
theorem Ex.trans {G H I : Hp} (a : Ex G H) (b : Ex H I) : Ex G I := fun x o h => b x o (a x o h)
theorem Ex.new {H : Hp} {p : Addr} {o : HO} (h : H p = none) : Ex H (upd H p o) := fun a u e => by
  rw [upd_ne (ne_of_none e h)]; exact e
theorem Ex.mut {G H : Hp} {p : Addr} {o : HO} (e : Ex G H) (h : G p = none) : Ex G (upd H p o) := fun a u ha => by
  rw [upd_ne (ne_of_none ha h)]; exact e a u ha
theorem Ex.both {G H : Hp} {p : Addr} {o : HO} (e : Ex G H) : Ex (upd G p o) (upd H p o) := fun a u ha => by
  unfold upd at ha ⊢
  split at ha
  · rename_i h; rw [if_pos h]; exact ha
  · rename_i h; rw [if_neg h]; exact e a u ha
theorem Ex.free {G H : Hp} (e : Ex G H) {p : Addr} (h : H p = none) : G p = none := by
  cases q : G p with
  | none => rfl
  | some o => rw [e p o q] at h; cases h
mutual
/-- the value v is d, by what G knows -/
def R (G : Hp) : D → V → Prop
  | .non, v => v = .non
  | .bl b, v => v = .bl b
  | .int i, v => v = .int i
  | .str s, v => v = .str s
  | .tup ds, v => ∃ a vs, v = .ref a ∧ G a = some (.tup vs) ∧ Rs G ds vs
  | .lst ds, v => ∃ a vs, v = .ref a ∧ G a = some (.lst vs) ∧ Rs G ds vs
  | .dct ks, v => ∃ a ws, v = .ref a ∧ G a = some (.dK ws) ∧ Rk G ks ws
  | .xt ds, v => ∃ a vs o, v = .ref a ∧ G a = some (.frz o (.tup vs)) ∧ o.cls = .type "tuple" ∧ o.dict = none ∧ Rs G ds vs
def Rs (G : Hp) : List D → List V → Prop
  | [], vs => vs = []
  | d :: ds, vs => ∃ v r, vs = v :: r ∧ R G d v ∧ Rs G ds r
def Rk (G : Hp) : List (Str × D) → List (Key × V) → Prop
  | [], ws => ws = []
  | (k, d) :: ks, ws => ∃ v r, ws = (Sum.inr k, v) :: r ∧ R G d v ∧ Rk G ks r
end
mutual
theorem R.mono {G H : Hp} (e : Ex G H) : ∀ {d : D} {v : V}, R G d v → R H d v
  | .non, v, h => h
  | .bl b, v, h => h
  | .int i, v, h => h
  | .str s, v, h => h
  | .tup ds, v, h => by
    obtain ⟨a, vs, q, h1, h2⟩ := h
    exact ⟨a, vs, q, e _ _ h1, Rs.mono e h2⟩
  | .lst ds, v, h => by
    obtain ⟨a, vs, q, h1, h2⟩ := h
    exact ⟨a, vs, q, e _ _ h1, Rs.mono e h2⟩
  | .dct ks, v, h => by
    obtain ⟨a, vs, q, h1, h2⟩ := h
    exact ⟨a, vs, q, e _ _ h1, Rk.mono e h2⟩
  | .xt ds, v, h => by
    obtain ⟨a, vs, o, q, h1, h2, h3, h4⟩ := h
    exact ⟨a, vs, o, q, e _ _ h1, h2, h3, Rs.mono e h4⟩
theorem Rs.mono {G H : Hp} (e : Ex G H) : ∀ {ds : List D} {vs : List V}, Rs G ds vs → Rs H ds vs
  | [], vs, h => h
  | d :: ds, vs, h => by
    obtain ⟨v, r, q, h1, h2⟩ := h
    exact ⟨v, r, q, R.mono e h1, Rs.mono e h2⟩
theorem Rk.mono {G H : Hp} (e : Ex G H) : ∀ {ks : List (Str × D)} {ws : List (Key × V)}, Rk G ks ws → Rk H ks ws
  | [], ws, h => h
  | (k, d) :: ks, ws, h => by
    obtain ⟨v, r, q, h1, h2⟩ := h
    exact ⟨v, r, q, R.mono e h1, Rk.mono e h2⟩
end
section
variable {G : Hp}
theorem Rs.cons {d : D} {v : V} {ds : List D} {vs : List V} (h : R G d v) (t : Rs G ds vs) : Rs G (d :: ds) (v :: vs) := ⟨v, vs, rfl, h, t⟩
theorem Rs.nil : Rs G [] [] := rfl
theorem Rs.len : ∀ {ds : List D} {vs : List V}, Rs G ds vs → ds.length = vs.length
  | [], _, h => by cases h; rfl
  | _ :: _, _, h => by
    obtain ⟨v, r, rfl, _, t⟩ := h
    simp [Rs.len t]
theorem Rs.app : ∀ {ds es : List D} {vs ws : List V}, Rs G ds vs → Rs G es ws → Rs G (ds ++ es) (vs ++ ws)
  | [], _, _, _, h, t => by cases h; exact t
  | _ :: _, _, _, _, h, t => by
    obtain ⟨v, r, rfl, a, b⟩ := h
    exact ⟨v, _, rfl, a, Rs.app b t⟩
theorem Rs.one {d : D} {v : V} (h : R G d v) : Rs G [d] [v] := ⟨v, [], rfl, h, rfl⟩
theorem Rs.take : ∀ {ds : List D} {vs : List V} (n : Nat), Rs G ds vs → Rs G (ds.take n) (vs.take n)
  | [], _, n, h => by cases h; simp; exact rfl
  | _ :: _, _, 0, h => by simp; exact rfl
  | _ :: _, _, n + 1, h => by
    obtain ⟨v, r, rfl, a, b⟩ := h
    exact ⟨v, _, rfl, a, Rs.take n b⟩
theorem Rs.drop : ∀ {ds : List D} {vs : List V} (n : Nat), Rs G ds vs → Rs G (ds.drop n) (vs.drop n)
  | [], _, n, h => by cases h; simp; exact rfl
  | _ :: _, _, 0, h => h
  | _ :: _, _, n + 1, h => by
    obtain ⟨v, r, rfl, a, b⟩ := h
    exact Rs.drop n b
theorem Rs.get : ∀ {ds : List D} {vs : List V} {i : Nat} {d : D}, Rs G ds vs → ds[i]? = some d → ∃ v, vs[i]? = some v ∧ R G d v
  | [], _, _, _, _, e => by simp at e
  | _ :: _, _, 0, _, h, e => by
    obtain ⟨v, r, rfl, a, _⟩ := h
    simp at e; subst e
    exact ⟨v, rfl, a⟩
  | _ :: _, _, i + 1, d, h, e => by
    obtain ⟨v, r, rfl, _, b⟩ := h
    simp at e
    obtain ⟨u, h1, h2⟩ := Rs.get b e
    exact ⟨u, by simpa using h1, h2⟩
theorem Rs.back : ∀ {ds : List D} {vs : List V} {i : Nat} {v : V}, Rs G ds vs → vs[i]? = some v → ∃ d, ds[i]? = some d ∧ R G d v
  | [], _, _, _, h, e => by cases h; simp at e
  | d :: _, _, 0, _, h, e => by
    obtain ⟨v, r, rfl, a, _⟩ := h
    simp at e; subst e
    exact ⟨d, rfl, a⟩
  | _ :: _, _, i + 1, d, h, e => by
    obtain ⟨v, r, rfl, _, b⟩ := h
    simp at e
    obtain ⟨u, h1, h2⟩ := Rs.back b e
    exact ⟨u, by simpa using h1, h2⟩
theorem Rs.set {d : D} {v : V} (h : R G d v) : ∀ {ds : List D} {vs : List V} (i : Nat), Rs G ds vs → Rs G (ds.set i d) (vs.set i v)
  | [], _, _, t => by cases t; exact rfl
  | _ :: _, _, 0, t => by
    obtain ⟨u, r, rfl, _, b⟩ := t
    exact ⟨v, _, rfl, h, b⟩
  | _ :: _, _, i + 1, t => by
    obtain ⟨u, r, rfl, a, b⟩ := t
    exact ⟨u, _, rfl, a, Rs.set h i b⟩
theorem Rs.rev : ∀ {ds : List D} {vs : List V}, Rs G ds vs → Rs G ds.reverse vs.reverse
  | [], _, h => by cases h; exact rfl
  | _ :: _, _, h => by
    obtain ⟨u, r, rfl, a, b⟩ := h
    rw [List.reverse_cons, List.reverse_cons]
    exact (Rs.rev b).app (Rs.one a)
theorem Rs.rep {d : D} {v : V} (h : R G d v) : ∀ n : Nat, Rs G (List.replicate n d) (List.replicate n v)
  | 0 => rfl
  | n + 1 => ⟨v, _, rfl, h, Rs.rep h n⟩
theorem Rs.ints : ∀ {ns : List Int}, Rs G (ns.map D.int) (ns.map V.int)
  | [] => rfl
  | n :: ns => ⟨.int n, _, rfl, rfl, Rs.ints⟩
/-- looked up by a text -/
def look (ks : List (Str × D)) (k : Str) : Option D := ks.lookup k
/-- stored under a text -/
def put (ks : List (Str × D)) (k : Str) (d : D) : List (Str × D) := match ks with
  | [] => [(k, d)]
  | (j, e) :: r => if j = k then (j, d) :: r else (j, e) :: put r k d
theorem Rk.len : ∀ {ks : List (Str × D)} {ws : List (Key × V)}, Rk G ks ws → ks.length = ws.length
  | [], _, h => by cases h; rfl
  | (_, _) :: _, _, h => by
    obtain ⟨v, r, rfl, _, t⟩ := h
    simp [Rk.len t]
end
end Ab


namespace Ab
open PySem L2
/-! ### dicts -/
def lookD (ks : List (Str × D)) (k : Str) : Option D := (ks.find? fun e => decide (e.1 = k)).map (·.2)
def putD (ks : List (Str × D)) (k : Str) (d : D) : List (Str × D) :=
  if (lookD ks k).isSome then ks.map fun e => if e.1 = k then (e.1, d) else e else ks ++ [(k, d)]
theorem lookD_nil {k : Str} : lookD [] k = none := rfl
theorem lookD_cons {j k : Str} {d : D} {r : List (Str × D)} : lookD ((j, d) :: r) k = if j = k then some d else lookD r k := by
  unfold lookD
  rw [List.find?_cons]
  by_cases h : j = k
  · simp [h]
  · simp [h]
theorem lookD_map {k j : Str} {d : D} : ∀ ks : List (Str × D), lookD (ks.map fun e => if e.1 = k then (e.1, d) else e) j = (lookD ks j).map fun x => if j = k then d else x
  | [] => rfl
  | (i, e) :: r => by
    rw [List.map_cons]
    have ih := lookD_map (k := k) (j := j) (d := d) r
    by_cases hi : i = k
    · rw [if_pos hi, lookD_cons, lookD_cons, ih]
      by_cases hj : i = j
      · rw [if_pos hj, if_pos hj]
        simp [← hj, hi]
      · rw [if_neg hj, if_neg hj]
    · rw [if_neg hi, lookD_cons, lookD_cons, ih]
      by_cases hj : i = j
      · rw [if_pos hj, if_pos hj]
        have : ¬ j = k := fun z => hi (hj.trans z)
        simp [this]
      · rw [if_neg hj, if_neg hj]
theorem lookD_snoc {k j : Str} {d : D} : ∀ {ks : List (Str × D)}, lookD ks k = none → lookD (ks ++ [(k, d)]) j = if j = k then some d else lookD ks j
  | [], _ => by
    rw [List.nil_append, lookD_cons]
    by_cases h : k = j
    · simp [h]
    · have : ¬ j = k := fun z => h z.symm
      simp [h, this]
  | (i, e) :: r, h => by
    rw [lookD_cons] at h
    have hi : ¬ i = k := fun z => by rw [if_pos z] at h; cases h
    rw [if_neg hi] at h
    rw [List.cons_append, lookD_cons, lookD_cons, lookD_snoc h]
    by_cases hj : i = j
    · have : ¬ j = k := fun z => hi (hj.trans z)
      simp [hj, this]
    · simp [hj]
theorem lookD_put {ks : List (Str × D)} {k j : Str} {d : D} : lookD (putD ks k d) j = if j = k then some d else lookD ks j := by
  unfold putD
  by_cases h : (lookD ks k).isSome = true
  · rw [if_pos h, lookD_map]
    by_cases hj : j = k
    · subst hj
      obtain ⟨x, hx⟩ := Option.isSome_iff_exists.mp h
      simp [hx]
    · simp [hj]
  · rw [if_neg h, lookD_snoc (by simpa using h)]
theorem Rk.look {G : Hp} {k : Str} : ∀ {ks : List (Str × D)} {ws : List (Key × V)}, Rk G ks ws → match lookD ks k with | some d => ∃ v, valV ws (Sum.inr k) = some v ∧ R G d v | none => valV ws (Sum.inr k) = none
  | [], _, h => by cases h; exact rfl
  | (j, d) :: r, _, h => by
    obtain ⟨v, ws, rfl, h1, h2⟩ := h
    rw [lookD_cons]
    by_cases hj : j = k
    · rw [if_pos hj]
      exact ⟨v, valV_pos (by rw [hj]), h1⟩
    · rw [if_neg hj, valV_neg (fun z => hj (Sum.inr.inj z))]
      exact Rk.look h2
theorem Rk.some {G : Hp} {k : Str} {ks : List (Str × D)} {ws : List (Key × V)} {d : D} (h : Rk G ks ws) (e : lookD ks k = some d) : ∃ v, valV ws (Sum.inr k) = some v ∧ R G d v := by
  have q := h.look (k := k)
  rw [e] at q
  exact q
theorem Rk.none {G : Hp} {k : Str} {ks : List (Str × D)} {ws : List (Key × V)} (h : Rk G ks ws) (e : lookD ks k = none) : valV ws (Sum.inr k) = Option.none := by
  have q := h.look (k := k)
  rw [e] at q
  exact q
theorem Rk.is {G : Hp} {k : Str} {ks : List (Str × D)} {ws : List (Key × V)} (h : Rk G ks ws) : (valV ws (Sum.inr k)).isSome = (lookD ks k).isSome := by
  cases e : lookD ks k with
  | none => rw [h.none e]; rfl
  | some d =>
    obtain ⟨v, e1, _⟩ := h.some e
    rw [e1]; rfl
theorem Rk.app {G : Hp} : ∀ {ks ls : List (Str × D)} {ws us : List (Key × V)}, Rk G ks ws → Rk G ls us → Rk G (ks ++ ls) (ws ++ us)
  | [], _, _, _, h, t => by cases h; exact t
  | (_, _) :: _, _, _, _, h, t => by
    obtain ⟨v, r, rfl, a, b⟩ := h
    exact ⟨v, _, rfl, a, Rk.app b t⟩
theorem Rk.map {G : Hp} {k : Str} {d : D} {v : V} (hd : R G d v) : ∀ {ks : List (Str × D)} {ws : List (Key × V)}, Rk G ks ws →
    Rk G (ks.map fun e => if e.1 = k then (e.1, d) else e) (ws.map fun e => if e.1 = Sum.inr k then (e.1, v) else e)
  | [], _, h => by cases h; exact rfl
  | (j, e) :: r, _, h => by
    obtain ⟨u, ws, rfl, a, b⟩ := h
    rw [List.map_cons, List.map_cons]
    by_cases hj : j = k
    · rw [if_pos hj, if_pos (by rw [hj])]
      exact ⟨v, _, rfl, hd, Rk.map hd b⟩
    · rw [if_neg hj, if_neg (fun z => hj (Sum.inr.inj z))]
      exact ⟨u, _, rfl, a, Rk.map hd b⟩
theorem Rk.put {G : Hp} {k : Str} {ks : List (Str × D)} {ws : List (Key × V)} {d : D} {v : V} (h : Rk G ks ws) (hd : R G d v) : Rk G (putD ks k d) (putK ws (Sum.inr k) v) := by
  have q := h.is (k := k)
  unfold putD putK
  by_cases e : (lookD ks k).isSome = true
  · rw [if_pos e]
    rw [if_pos (by rw [valV_any, q]; exact e)]
    exact h.map hd
  · rw [if_neg e]
    rw [if_neg (by rw [valV_any, q]; exact e)]
    exact h.app ⟨v, [], rfl, hd, rfl⟩
theorem putD_len {ks : List (Str × D)} {k : Str} {d : D} : (putD ks k d).length ≤ ks.length + 1 := by
  unfold putD
  split
  · rw [List.length_map]; omega
  · rw [List.length_append]; exact Nat.le_refl _
/-! ### states -/
inductive AV where
  | im (d : D)
  | owl (ds : List D)
  | owd (ks : List (Str × D))
  | stk
  | rng
  | kept (ws : List D) (ks : List (Str × D))
def AV.owned : AV → Bool
  | .owl _ => true
  | .owd _ => true
  | _ => false
structure Stk where
  base : D
  words : D
  patches : List (Str × D)
  many : Int
structure A where
  ρ : List (Option AV)
  S : Option Stk
inductive Err where
  | noSuch
  | conflict
  | refused (w : Str)
  | invName (w : Str)
/-- what the text has at which places -/
structure Cl where
  stack : Addr
  noSuch : Addr
  conflict : Addr
  refused : Addr
  invName : Addr
  /-- the tables of the code objects whose defs have generator expressions -/
  tabs : List Addr
/-- how an error lies -/
def ErrAt (Z : Cl) : Err → Value → Option Addr → Hp → Prop
  | .noSuch, c, _, _ => c = .ref Z.noSuch
  | .conflict, c, _, _ => c = .ref Z.conflict
  | .refused w, c, d, H => c = .ref Z.refused ∧ ∃ a, d = some a ∧ H a = some (.xd [("branch", .str w)])
  | .invName w, c, d, H => c = .ref Z.invName ∧ ∃ a, d = some a ∧ H a = some (.xd [("name", .str w)])
/-- where a def (or a part of it) has begun: the heap, what is known of it, the stack, its dict, the state's list -/
structure Base where
  H0 : Hp
  G0 : Hp
  q : Option Addr
  pd0 : Addr
  r : Option Addr
  GK : Hp
def Base.mut (B : Base) (Z : Cl) (x : Addr) : Prop := B.q = some x ∨ (B.q ≠ none ∧ x = B.pd0) ∨ B.r = some x ∨ x ∈ Z.tabs
def flds (vb vw vp : V) (m : Int) : List (Str × V) := [("base", vb), ("words", vw), ("patches", vp), ("many", .int m)]
def StkAt (C : Addr) (H G : Hp) (q pd : Addr) (S : Stk) : Prop :=
  ∃ dx vb vw ws, H q = some (.ins C dx (flds vb vw (.ref pd) S.many)) ∧ H pd = some (.dK ws) ∧ G q = none ∧ G pd = none ∧ R G S.base vb ∧ R G S.words vw ∧ Rk G S.patches ws
def RngAt (H G : Hp) (r : Addr) : Prop :=
  ∃ (i0 i1 i3 : Int) (s : Addr) (ns : List Int), H r = some (.lst [.int i0, .int i1, .ref s, .int i3]) ∧ G r = none ∧ G s = some (.lst (ns.map .int)) ∧ 0 ≤ i1
def PdOf (H : Hp) (q p : Addr) : Prop := ∃ C dx fs, H q = some (.ins C dx fs) ∧ fs.lookup ("patches" : Str) = some (V.ref p)
structure RelS (Z : Cl) (B : Base) (H G : Hp) (S : Option Stk) : Prop where
  gh : Ex G H
  g0 : Ex B.G0 G
  new : ∀ x, G x ≠ none → B.G0 x ≠ none ∨ B.H0 x = none
  dom : ∀ x, B.H0 x ≠ none → H x ≠ none
  keep : ∀ x o, B.H0 x = some o → ¬ B.mut Z x → H x = some o
  st : match S with | none => B.q = none | some S => ∃ q pd, B.q = some q ∧ StkAt Z.stack H G q pd S ∧ (pd = B.pd0 ∨ B.H0 pd = none)
  rn : ∀ r, B.r = some r → RngAt H G r ∧ B.H0 r ≠ none
  qn : ∀ q, B.q = some q → B.H0 q ≠ none
  tb : ∀ t, t ∈ Z.tabs → GxR.TabG H t ∧ G t = none ∧ B.H0 t ≠ none
def SlotR (B : Base) (H G : Hp) : AV → V → Prop
  | .im d, v => R G d v
  | .owl ds, v => ∃ p vs, v = .ref p ∧ H p = some (.lst vs) ∧ G p = none ∧ B.H0 p = none ∧ Rs G ds vs
  | .owd ks, v => ∃ p ws, v = .ref p ∧ H p = some (.dK ws) ∧ G p = none ∧ B.H0 p = none ∧ Rk G ks ws ∧ ∀ q, B.q = some q → ¬ PdOf H q p
  | .stk, v => ∃ q, B.q = some q ∧ v = .ref q
  | .rng, v => ∃ r, B.r = some r ∧ v = .ref r
  | .kept ws ks, v => ∃ T l p vs us, v = .ref T ∧ G T = some (.tup [.ref l, .ref p]) ∧ G l = some (.lst vs) ∧ Rs G ws vs ∧ G p = some (.dK us) ∧ Rk G ks us ∧ B.H0 p = none ∧ B.G0 p = none
theorem kept_mono {B B' : Base} {H H' G G' : Hp} {ws : List D} {ks : List (Str × D)} {v : V} (h : SlotR B H G (.kept ws ks) v) (e : Ex G G') (e0 : B'.H0 = B.H0) (e1 : B'.G0 = B.G0) : SlotR B' H' G' (.kept ws ks) v := by
  obtain ⟨T, l, p, vs, us, h1, h2, h3, h4, h5, h6, h7, h8⟩ := h
  exact ⟨T, l, p, vs, us, h1, e _ _ h2, e _ _ h3, h4.mono e, e _ _ h5, h6.mono e, by rw [e0]; exact h7, by rw [e1]; exact h8⟩
structure Rel (Z : Cl) (B : Base) (σ : St) (H G : Hp) (a : A) : Prop extends RelS Z B H G a.S where
  len : σ.length = a.ρ.length
  sl : ∀ (i : Nat) (x : AV), a.ρ[i]? = some (some x) → ∃ v, σ[i]? = some (some v) ∧ SlotR B H G x v
  dis : ∀ (i j : Nat) (p : Addr) (x y : AV), i ≠ j → a.ρ[i]? = some (some x) → x.owned = true → a.ρ[j]? = some (some y) → y.owned = true → σ[i]? = some (some (.ref p)) → σ[j]? = some (some (.ref p)) → False
  gk : Ex B.GK G
/-! ### heaps that grow -/
section
variable {Z : Cl} {B : Base} {σ : St} {H H' G G' : Hp} {a : A} {S : Option Stk} {p : Addr} {o : HO}
/-- what is known of the stack and of the list of the state stays where nothing of theirs is touched -/
theorem StkAt.keep {C q pd : Addr} {S : Stk} (h : StkAt C H G q pd S) (e : Ex G G') (k1 : H' q = H q) (k2 : H' pd = H pd) (n1 : G' q = none) (n2 : G' pd = none) : StkAt C H' G' q pd S := by
  obtain ⟨dx, vb, vw, ws, h1, h2, h3, h4, h5, h6, h7⟩ := h
  exact ⟨dx, vb, vw, ws, by rw [k1]; exact h1, by rw [k2]; exact h2, n1, n2, h5.mono e, h6.mono e, h7.mono e⟩
theorem RngAt.keep {r : Addr} (h : RngAt H G r) (e : Ex G G') (k1 : H' r = H r) (n1 : G' r = none) : RngAt H' G' r := by
  obtain ⟨i0, i1, i3, s, ns, h1, h2, h3, h4⟩ := h
  exact ⟨i0, i1, i3, s, ns, by rw [k1]; exact h1, n1, e _ _ h3, h4⟩
theorem StkAt.some1 {C q pd : Addr} {S : Stk} (h : StkAt C H G q pd S) : H q ≠ none ∧ H pd ≠ none := by
  obtain ⟨dx, vb, vw, ws, h1, h2, _⟩ := h
  exact ⟨by rw [h1]; simp, by rw [h2]; simp⟩
/-- a new thing at p, known (known = true) or not -/
theorem RelS.fresh (x : RelS Z B H G S) (h : H p = none) (e : Ex G G') (g : Ex G' (upd H p o)) (n : ∀ z, G' z ≠ none → G z ≠ none ∨ z = p) : RelS Z B (upd H p o) G' S := by
  have ne : ∀ z, H z ≠ none → z ≠ p := fun z hz w => hz (by rw [w]; exact h)
  have hu : ∀ z, H z ≠ none → upd H p o z = H z := fun z hz => upd_ne (ne z hz)
  have gn : ∀ z, H z ≠ none → G z = none → G' z = none := fun z hz gz => by
    cases q : G' z with
    | none => rfl
    | some w =>
      rcases n z (by rw [q]; simp) with w | w
      · exact absurd gz w
      · exact absurd w (ne z hz)
  have hp0 : B.H0 p = none := by
    cases q : B.H0 p with
    | none => rfl
    | some w => exact absurd h (x.dom p (by rw [q]; simp))
  refine ⟨g, x.g0.trans e, fun z hz => ?_, fun z hz => ?_, fun z w hz hm => ?_, ?_, fun r hr => ?_, x.qn, fun t ht => ?_⟩
  · rcases n z hz with w | rfl
    · exact x.new z w
    · exact .inr hp0
  · rw [hu z (x.dom z hz)]; exact x.dom z hz
  · have k := x.keep z w hz hm
    rw [hu z (by rw [k]; simp)]; exact k
  · have st := x.st
    cases S with
    | none => exact st
    | some S =>
      obtain ⟨q, pd, h1, h2, h3⟩ := st
      obtain ⟨y1, y2⟩ := h2.some1
      have y3 := h2
      obtain ⟨_, _, _, _, _, _, g1, g2, _⟩ := y3
      exact ⟨q, pd, h1, h2.keep e (hu _ y1) (hu _ y2) (gn _ y1 g1) (gn _ y2 g2), h3⟩
  · obtain ⟨h1, h2⟩ := x.rn r hr
    have y := x.dom r h2
    have y3 := h1
    obtain ⟨_, _, _, _, _, _, g1, _⟩ := y3
    exact ⟨h1.keep e (hu _ y) (gn _ y g1), h2⟩
  · obtain ⟨⟨ps, h1, h1'⟩, h2, h3⟩ := x.tb t ht
    have y := x.dom t h3
    exact ⟨⟨ps, by rw [hu _ y]; exact h1, h1'⟩, gn _ y h2, h3⟩
theorem RelS.known (x : RelS Z B H G S) (h : H p = none) : RelS Z B (upd H p o) (upd G p o) S :=
  x.fresh h (Ex.new (x.gh.free h)) x.gh.both fun z hz => by
    by_cases e : z = p
    · exact .inr e
    · rw [upd_ne e] at hz; exact .inl hz
theorem RelS.unknown (x : RelS Z B H G S) (h : H p = none) : RelS Z B (upd H p o) G S :=
  x.fresh h (Ex.refl G) (x.gh.trans (Ex.new h)) fun z hz => .inl hz
theorem SlotR.fresh {x : AV} {v : V} (s : SlotR B H G x v) (qn : ∀ q, B.q = some q → H q ≠ none) (h : H p = none) (e : Ex G G') (n : ∀ z, G' z ≠ none → G z ≠ none ∨ z = p) : SlotR B (upd H p o) G' x v := by
  have ne : ∀ z w, H z = some w → z ≠ p := fun z w hz k => by rw [k, h] at hz; cases hz
  have gn : ∀ z w, H z = some w → G z = none → G' z = none := fun z w hz gz => by
    cases q : G' z with
    | none => rfl
    | some w' =>
      rcases n z (by rw [q]; simp) with k | k
      · exact absurd gz k
      · exact absurd k (ne z w hz)
  cases x with
  | im d => exact R.mono e s
  | owl ds =>
    obtain ⟨p', vs, rfl, h1, h2, h3, h4⟩ := s
    exact ⟨p', vs, rfl, by rw [upd_ne (ne _ _ h1)]; exact h1, gn _ _ h1 h2, h3, h4.mono e⟩
  | owd ks =>
    obtain ⟨p', vs, rfl, h1, h2, h3, h4, h5⟩ := s
    refine ⟨p', vs, rfl, by rw [upd_ne (ne _ _ h1)]; exact h1, gn _ _ h1 h2, h3, h4.mono e, fun q hq z => ?_⟩
    obtain ⟨C, dx, fs, z1, z2⟩ := z
    have hne : q ≠ p := fun k => qn q hq (by rw [k]; exact h)
    rw [upd_ne hne] at z1
    exact h5 q hq ⟨C, dx, fs, z1, z2⟩
  | stk => exact s
  | rng => exact s
  | kept ws ks => exact kept_mono s e rfl rfl
theorem RelS.qh (x : RelS Z B H G S) : ∀ q, B.q = some q → H q ≠ none := fun q hq => x.dom q (x.qn q hq)
theorem Rel.fresh (x : Rel Z B σ H G a) (h : H p = none) (e : Ex G G') (g : Ex G' (upd H p o)) (n : ∀ z, G' z ≠ none → G z ≠ none ∨ z = p) : Rel Z B σ (upd H p o) G' a :=
  ⟨x.toRelS.fresh h e g n, x.len, fun i y hi => by
    obtain ⟨v, h1, h2⟩ := x.sl i y hi
    exact ⟨v, h1, h2.fresh x.qh h e n⟩, x.dis, x.gk.trans e⟩
theorem Rel.known (x : Rel Z B σ H G a) (h : H p = none) : Rel Z B σ (upd H p o) (upd G p o) a :=
  x.fresh h (Ex.new (x.gh.free h)) x.gh.both fun z hz => by
    by_cases e : z = p
    · exact .inr e
    · rw [upd_ne e] at hz; exact .inl hz
theorem Rel.unknown (x : Rel Z B σ H G a) (h : H p = none) : Rel Z B σ (upd H p o) G a :=
  x.fresh h (Ex.refl G) (x.gh.trans (Ex.new h)) fun z hz => .inl hz
theorem Rel.ex (x : Rel Z B σ H G a) (h : H p = none) : Ex G (upd G p o) := Ex.new (x.gh.free h)
end
/-! ### slots -/
def A.put (a : A) (i : Nat) (x : AV) : A := ⟨a.ρ.set i (some x), a.S⟩
def A.off (a : A) (i : Nat) : A := ⟨a.ρ.set i none, a.S⟩
section
variable {Z : Cl} {B : Base} {σ : St} {H H' G G' : Hp} {a : A} {S : Option Stk} {p : Addr} {o : HO} {i : Nat} {v : V}
/-- a value in slot i -/
theorem Rel.set {x : AV} (r : Rel Z B σ H G a) (h : SlotR B H G x v) (d : x.owned = true → ∀ j p y, i ≠ j → a.ρ[j]? = some (some y) → y.owned = true → v = .ref p → σ[j]? = some (some (.ref p)) → False) :
    Rel Z B (σ.set i (some v)) H G (a.put i x) := by
  refine ⟨r.toRelS, ?_, fun j y hj => ?_, fun j k p y z hne h1 h2 h3 h4 h5 h6 => ?_, r.gk⟩
  · show (σ.set i (some v)).length = (a.ρ.set i (some x)).length
    rw [List.length_set, List.length_set]; exact r.len
  · have hj : (a.ρ.set i (some x))[j]? = some (some y) := hj
    rw [List.getElem?_set] at hj ⊢
    by_cases e : i = j
    · subst e
      rw [if_pos rfl] at hj ⊢
      by_cases hl : i < a.ρ.length
      · rw [if_pos hl] at hj
        rw [if_pos (by rw [r.len]; exact hl)]
        cases hj
        exact ⟨v, rfl, h⟩
      · rw [if_neg hl] at hj; cases hj
    · rw [if_neg e] at hj ⊢
      exact r.sl j y hj
  · have h1 : (a.ρ.set i (some x))[j]? = some (some y) := h1
    have h3 : (a.ρ.set i (some x))[k]? = some (some z) := h3
    rw [List.getElem?_set] at h1 h3 h5 h6
    by_cases ej : i = j
    · subst ej
      rw [if_neg hne] at h3 h6
      rw [if_pos rfl] at h1 h5
      split at h1
      · cases h1
        split at h5
        · simp only [Option.some.injEq] at h5
          exact d h2 k p z hne h3 h4 h5 h6
        · cases h5
      · cases h1
    · rw [if_neg ej] at h1 h5
      by_cases ek : i = k
      · subst ek
        rw [if_pos rfl] at h3 h6
        split at h3
        · cases h3
          split at h6
          · simp only [Option.some.injEq] at h6
            exact d h4 j p y ej h1 h2 h6 h5
          · cases h6
        · cases h3
      · rw [if_neg ek] at h3 h6
        exact r.dis j k p y z hne h1 h2 h3 h4 h5 h6
theorem Rel.setIm {d : D} (r : Rel Z B σ H G a) (h : R G d v) : Rel Z B (σ.set i (some v)) H G (a.put i (.im d)) := r.set h fun z => by cases z
/-- slot i is forgotten; whatever stands there -/
theorem Rel.drop {u : Option V} (r : Rel Z B σ H G a) : Rel Z B (σ.set i u) H G (a.off i) := by
  refine ⟨r.toRelS, ?_, fun j y hj => ?_, fun j k p y z hne h1 h2 h3 h4 h5 h6 => ?_, r.gk⟩
  · show (σ.set i u).length = (a.ρ.set i none).length
    rw [List.length_set, List.length_set]; exact r.len
  · have hj : (a.ρ.set i none)[j]? = some (some y) := hj
    rw [List.getElem?_set] at hj ⊢
    by_cases e : i = j
    · rw [if_pos e] at hj
      split at hj <;> cases hj
    · rw [if_neg e] at hj ⊢
      exact r.sl j y hj
  · have h1 : (a.ρ.set i none)[j]? = some (some y) := h1
    have h3 : (a.ρ.set i none)[k]? = some (some z) := h3
    rw [List.getElem?_set] at h1 h3 h5 h6
    by_cases ej : i = j
    · rw [if_pos ej] at h1
      split at h1 <;> cases h1
    · rw [if_neg ej] at h1 h5
      by_cases ek : i = k
      · rw [if_pos ek] at h3
        split at h3 <;> cases h3
      · rw [if_neg ek] at h3 h6
        exact r.dis j k p y z hne h1 h2 h3 h4 h5 h6
theorem set_self {α : Type} : ∀ {l : List α} {i : Nat} {x : α}, l[i]? = some x → l.set i x = l
  | [], _, _, h => by simp at h
  | y :: l, 0, x, h => by simp at h; subst h; rfl
  | y :: l, i + 1, x, h => by
    simp at h
    rw [List.set_cons_succ, set_self (by simpa using h)]
theorem StkAt.pd {C q pd : Addr} {S : Stk} (h : StkAt C H G q pd S) : PdOf H q pd := by
  obtain ⟨dx, vb, vw, ws, h1, _⟩ := h
  exact ⟨C, dx, _, h1, rfl⟩
theorem PdOf.uni {q p p' : Addr} (h : PdOf H q p) (h' : PdOf H q p') : p = p' := by
  obtain ⟨C, dx, fs, h1, h2⟩ := h
  obtain ⟨C', dx', fs', h1', h2'⟩ := h'
  rw [h1] at h1'
  cases h1'
  rw [h2] at h2'
  cases h2'
  rfl
/-- what is owned is given away: from now on it is known, and never changed -/
theorem Rel.freezeX {x : AV} {d : D} (r : Rel Z B σ H G a) (h : a.ρ[i]? = some (some x)) (hx : x.owned = true) (hv : σ[i]? = some (some (.ref p))) (h1 : H p = some o) (h2 : G p = none) (h3 : B.H0 p = none) (hd : R (upd G p o) d (.ref p))
    (nq : ∀ q, B.q = some q → ¬ PdOf H q p) : Rel Z B σ H (upd G p o) (a.put i (.im d)) := by
  have eg : Ex G (upd G p o) := Ex.new h2
  have gh : Ex (upd G p o) H := fun z w hz => by
    by_cases e : z = p
    · subst e; rw [upd_same] at hz; cases hz; exact h1
    · rw [upd_ne e] at hz; exact r.gh z w hz
  have gnn : ∀ z, z ≠ p → G z = none → upd G p o z = none := fun z hz hg => by rw [upd_ne hz]; exact hg
  have n0 : ∀ z, B.H0 z ≠ none → z ≠ p := fun z hz e => hz (by rw [e]; exact h3)
  have rs : RelS Z B H (upd G p o) a.S := by
    refine ⟨gh, r.g0.trans eg, fun z hz => ?_, r.dom, r.keep, ?_, fun x hx => ?_, r.qn, fun t ht => ⟨(r.tb t ht).1, gnn _ (n0 _ (r.tb t ht).2.2) (r.tb t ht).2.1, (r.tb t ht).2.2⟩⟩
    · by_cases e : z = p
      · subst e; exact .inr h3
      · rw [upd_ne e] at hz; exact r.new z hz
    · have st := r.st
      cases hS : a.S with
      | none => rw [hS] at st; exact st
      | some S =>
        rw [hS] at st
        obtain ⟨q, pd, s1, s2, s3⟩ := st
        have s4 := s2
        obtain ⟨dx, vb, vw, ws, t1, t2, t3, t4, _⟩ := s4
        have n2 : pd ≠ p := fun e => nq q s1 (by rw [← e]; exact s2.pd)
        exact ⟨q, pd, s1, s2.keep eg rfl rfl (gnn _ (n0 _ (r.qn q s1)) t3) (gnn _ n2 t4), s3⟩
    · obtain ⟨s1, s2⟩ := r.rn x hx
      have s4 := s1
      obtain ⟨i0, i1, i3, s, ns, t1, t2, _⟩ := s4
      exact ⟨s1.keep eg rfl (gnn _ (n0 _ s2) t2), s2⟩
  have r2 : Rel Z B σ H (upd G p o) (a.off i) := by
    refine ⟨rs, ?_, fun j y hj => ?_, fun j k p y z hne h1 h2 h3 h4 h5 h6 => ?_, r.gk.trans eg⟩
    · show σ.length = (a.ρ.set i none).length
      rw [List.length_set]; exact r.len
    · have hj : (a.ρ.set i none)[j]? = some (some y) := hj
      rw [List.getElem?_set] at hj
      by_cases e : i = j
      · rw [if_pos e] at hj
        split at hj <;> cases hj
      · rw [if_neg e] at hj
        obtain ⟨u, u1, u2⟩ := r.sl j y hj
        refine ⟨u, u1, ?_⟩
        cases y with
        | im d => exact R.mono eg u2
        | owl ds' =>
          obtain ⟨p', vs', rfl, w1, w2, w3, w4⟩ := u2
          have hne : p' ≠ p := fun z => r.dis i j p _ _ e h hx hj rfl hv (by rw [u1, z])
          exact ⟨p', vs', rfl, w1, by rw [upd_ne hne]; exact w2, w3, w4.mono eg⟩
        | owd ks =>
          obtain ⟨p', vs', rfl, w1, w2, w3, w4, w5⟩ := u2
          have hne : p' ≠ p := fun z => r.dis i j p _ _ e h hx hj rfl hv (by rw [u1, z])
          exact ⟨p', vs', rfl, w1, by rw [upd_ne hne]; exact w2, w3, w4.mono eg, w5⟩
        | stk => exact u2
        | rng => exact u2
        | kept ws ks => exact kept_mono u2 eg rfl rfl
    · have h1 : (a.ρ.set i none)[j]? = some (some y) := h1
      have h3 : (a.ρ.set i none)[k]? = some (some z) := h3
      rw [List.getElem?_set] at h1 h3
      by_cases ej : i = j
      · rw [if_pos ej] at h1
        split at h1 <;> cases h1
      · rw [if_neg ej] at h1
        by_cases ek : i = k
        · rw [if_pos ek] at h3
          split at h3 <;> cases h3
        · rw [if_neg ek] at h3
          exact r.dis j k p y z hne h1 h2 h3 h4 h5 h6
  have q := r2.setIm (i := i) hd
  rw [set_self hv] at q
  have e : (a.off i).put i (.im d) = a.put i (.im d) := by
    show A.mk ((a.ρ.set i none).set i _) a.S = A.mk (a.ρ.set i _) a.S
    rw [List.set_set]
  rw [e] at q
  exact q
theorem Rel.npd {vs : List V} (r : Rel Z B σ H G a) (h : H p = some (.lst vs)) : ∀ q, B.q = some q → ¬ PdOf H q p := fun q hq z => by
  have st := r.st
  cases hS : a.S with
  | none => rw [hS] at st; rw [hq] at st; cases st
  | some S =>
    rw [hS] at st
    obtain ⟨q', pd, s1, s2, s3⟩ := st
    rw [hq] at s1; cases s1
    have e := z.uni s2.pd
    obtain ⟨dx, vb, vw, ws, t1, t2, _⟩ := s2
    rw [e, t2] at h; cases h
theorem Rel.freeze {ds : List D} (r : Rel Z B σ H G a) (h : a.ρ[i]? = some (some (.owl ds))) : ∃ p G', σ[i]? = some (some (.ref p)) ∧ R G' (.lst ds) (.ref p) ∧ Ex G G' ∧ Rel Z B σ H G' (a.put i (.im (.lst ds))) := by
  obtain ⟨v, hv, p, vs, rfl, h1, h2, h3, h4⟩ := r.sl i _ h
  have rp : R (upd G p (.lst vs)) (.lst ds) (.ref p) := ⟨p, vs, rfl, upd_same, h4.mono (Ex.new h2)⟩
  exact ⟨p, _, hv, rp, Ex.new h2, r.freezeX h rfl hv h1 h2 h3 rp (r.npd h1)⟩
theorem Rel.freezeD {ks : List (Str × D)} (r : Rel Z B σ H G a) (h : a.ρ[i]? = some (some (.owd ks))) : ∃ p G', σ[i]? = some (some (.ref p)) ∧ R G' (.dct ks) (.ref p) ∧ Ex G G' ∧ Rel Z B σ H G' (a.put i (.im (.dct ks))) := by
  obtain ⟨v, hv, p, vs, rfl, h1, h2, h3, h4, h5⟩ := r.sl i _ h
  have rp : R (upd G p (.dK vs)) (.dct ks) (.ref p) := ⟨p, vs, rfl, upd_same, h4.mono (Ex.new h2)⟩
  exact ⟨p, _, hv, rp, Ex.new h2, r.freezeX h rfl hv h1 h2 h3 rp h5⟩
end
end Ab


namespace Ab
open PySem L2
/-! ### what two values give -/
abbrev F2 := D → D → (D → Prop) → Prop
/-- d is there already, or is made now -/
def Out (G H : Hp) (d : D) (Q : VK) : Prop := (∀ v, R G d v → Q v H) ∧ ∀ p o, H p = none → R (upd G p o) d (.ref p) → Q (.ref p) (upd H p o)
structure AOp (X : Cx) (f : Value → Value → Sem Value) (F : F2) : Prop where
  ex : ∃ r, OpR X f r ∧ ∀ (H G : Hp) (x y : V) (dx dy : D) (P : D → Prop) (Q : VK), Ex G H → R G dx x → R G dy y → F dx dy P → (∀ d, P d → Out G H d Q) → r x y H Q
theorem OpR.or {X : Cx} {f : Value → Value → Sem Value} {r r' : R2} (h : OpR X f r) (h' : OpR X f r') : OpR X f (fun x y H Q => r x y H Q ∨ r' x y H Q) := by
  intro pins s σ H x y v u Q I rx ry q
  rcases q with q | q
  · exact h pins s σ H x y v u Q I rx ry q
  · exact h' pins s σ H x y v u Q I rx ry q
theorem Out.int {G H : Hp} {i : Int} {Q : VK} (h : Out G H (.int i) Q) : Q (.int i) H := h.1 _ rfl
theorem Out.bl {G H : Hp} {i : Bool} {Q : VK} (h : Out G H (.bl i) Q) : Q (.bl i) H := h.1 _ rfl
theorem Out.str {G H : Hp} {i : Str} {Q : VK} (h : Out G H (.str i) Q) : Q (.str i) H := h.1 _ rfl
theorem Out.tup {G H : Hp} {ds : List D} {vs : List V} {Q : VK} (e : Ex G H) (h : Out G H (.tup ds) Q) (k : Rs G ds vs) : ∀ p, H p = none → Q (.ref p) (upd H p (.tup vs)) := fun p hp =>
  h.2 p _ hp ⟨p, vs, rfl, upd_same, k.mono (Ex.new (e.free hp))⟩
theorem Out.lst {G H : Hp} {ds : List D} {vs : List V} {Q : VK} (e : Ex G H) (h : Out G H (.lst ds) Q) (k : Rs G ds vs) : ∀ p, H p = none → Q (.ref p) (upd H p (.lst vs)) := fun p hp =>
  h.2 p _ hp ⟨p, vs, rfl, upd_same, k.mono (Ex.new (e.free hp))⟩
section
variable {X : Cx}
def FAdd : F2 := fun x y P => match x, y with
  | .int i, .int j => P (.int (i + j))
  | .str i, .str j => i.length + j.length ≤ sizeLine ∧ P (.str (i ++ j))
  | .tup i, .tup j => i.length + j.length ≤ sizeLine ∧ P (.tup (i ++ j))
  | .lst i, .lst j => i.length + j.length ≤ sizeLine ∧ P (.lst (i ++ j))
  | _, _ => False
theorem ao_add : AOp X (binaryOp .Add) FAdd := by
  refine ⟨_, OpR.or op_add (OpR.or op_add_str (OpR.or op_catA op_cat)), fun H G x y dx dy P Q e hx hy h k => ?_⟩
  cases dx with
  | int i => cases dy with
    | int j => exact .inl ⟨i, j, hx, hy, (k _ h).int⟩
    | _ => exact h.elim
  | str i => cases dy with
    | str j => exact .inr (.inl ⟨i, j, hx, hy, h.1, (k _ h.2).str⟩)
    | _ => exact h.elim
  | tup i => cases dy with
    | tup j =>
      obtain ⟨a, vs, rfl, h1, h2⟩ := hx
      obtain ⟨b, ws, rfl, h3, h4⟩ := hy
      obtain ⟨hl, h⟩ := h
      have kk := k _ h
      refine .inr (.inr (.inl ⟨a, b, vs, ws, rfl, rfl, SqT.of (e _ _ h1), SqT.of (e _ _ h3), by rw [← h2.len, ← h4.len]; exact hl, fun z => ?_, fun _ z => ?_, fun _ _ => ?_⟩))
      · subst z
        have z2 := h2.len
        have z3 : i = [] := List.eq_nil_of_length_eq_zero z2
        subst z3
        exact kk.1 _ ⟨b, ws, rfl, h3, h4⟩
      · subst z
        have z2 := h4.len
        have z3 : j = [] := List.eq_nil_of_length_eq_zero z2
        subst z3
        exact kk.1 _ ⟨a, vs, rfl, h1, by rw [List.append_nil]; exact h2⟩
      · exact kk.tup e (h2.app h4)
    | _ => exact h.elim
  | lst i => cases dy with
    | lst j =>
      obtain ⟨a, vs, rfl, h1, h2⟩ := hx
      obtain ⟨b, ws, rfl, h3, h4⟩ := hy
      obtain ⟨hl, h⟩ := h
      exact .inr (.inr (.inr ⟨a, b, vs, ws, rfl, rfl, e _ _ h1, e _ _ h3, by rw [← h2.len, ← h4.len]; exact hl, (k _ h).lst e (h2.app h4)⟩))
    | _ => exact h.elim
  | _ => exact h.elim
def FSub : F2 := fun x y P => match x, y with
  | .int i, .int j => P (.int (i - j))
  | _, _ => False
theorem ao_sub : AOp X (binaryOp .Sub) FSub := by
  refine ⟨_, op_sub, fun H G x y dx dy P Q e hx hy h k => ?_⟩
  cases dx with
  | int i => cases dy with
    | int j => exact ⟨i, j, hx, hy, (k _ h).int⟩
    | _ => exact h.elim
  | _ => exact h.elim
def FMul : F2 := fun x y P => match x, y with
  | .int i, .int j => (-(2 ^ 64) < j ∧ j < 2 ^ 64) ∧ P (.int (i * j))
  | .lst [d], .int j => 0 ≤ j ∧ j ≤ sizeLine ∧ P (.lst (List.replicate j.toNat d))
  | _, _ => False
theorem flat_rep {α : Type} (v : α) : ∀ n : Nat, (List.replicate n [v]).flatten = List.replicate n v
  | 0 => rfl
  | n + 1 => by rw [List.replicate_succ, List.flatten_cons, flat_rep v n]; rfl
theorem ao_mul : AOp X (binaryOp .Mult) FMul := by
  refine ⟨_, OpR.or op_mul op_rep, fun H G x y dx dy P Q e hx hy h k => ?_⟩
  cases dx with
  | int i => cases dy with
    | int j => exact .inl ⟨i, j, hx, hy, .inr h.1, (k _ h.2).int⟩
    | _ => exact h.elim
  | lst i =>
    match i, h with
    | [d], h => cases dy with
      | int j =>
        obtain ⟨a, vs, rfl, h1, v, r, rfl, h2, rfl⟩ := hx
        obtain ⟨h3, h4, h⟩ := h
        have hz : sizeLine = 16777216 := sizeLine_eq
        rw [hz] at h4
        refine .inr ⟨a, j, [v], rfl, hy, e _ _ h1, by omega, by omega, ?_, ?_⟩
        · rw [List.length_singleton, Nat.one_mul, hz]
          omega
        · rw [flat_rep]
          exact (k _ h).lst e (Rs.rep h2 _)
      | _ => exact h.elim
    | [], h => exact h.elim
    | _ :: _ :: _, h => exact h.elim
  | _ => exact h.elim
def FDiv : F2 := fun x y P => match x, y with
  | .int i, .int j => (0 < j ∧ j < 1073741824) ∧ P (.int (i / j))
  | _, _ => False
theorem ao_div : AOp X (binaryOp .FloorDiv) FDiv := by
  refine ⟨_, op_fdiv, fun H G x y dx dy P Q e hx hy h k => ?_⟩
  cases dx with
  | int i => cases dy with
    | int j => exact ⟨i, j, hx, hy, h.1, (k _ h.2).int⟩
    | _ => exact h.elim
  | _ => exact h.elim
def FMod : F2 := fun x y P => match x, y with
  | .int i, .int j => 0 < j ∧ P (.int (i % j))
  | _, _ => False
theorem ao_mod : AOp X (binaryOp .Mod) FMod := by
  refine ⟨_, op_mod, fun H G x y dx dy P Q e hx hy h k => ?_⟩
  cases dx with
  | int i => cases dy with
    | int j => exact ⟨i, j, hx, hy, h.1, (k _ h.2).int⟩
    | _ => exact h.elim
  | _ => exact h.elim
def FCmp (g : Int → Int → Bool) : F2 := fun x y P => match x, y with
  | .int i, .int j => P (.bl (g i j))
  | _, _ => False
theorem ao_cmp {f : Value → Value → Sem Value} {g : Int → Int → Bool} (o : OpR X f (rI0 fun i j => .bl (g i j))) : AOp X f (FCmp g) := by
  refine ⟨_, o, fun H G x y dx dy P Q e hx hy h k => ?_⟩
  cases dx with
  | int i => cases dy with
    | int j => exact ⟨i, j, hx, hy, (k _ h).bl⟩
    | _ => exact h.elim
  | _ => exact h.elim
abbrev FLt : F2 := FCmp fun i j => decide (i < j)
abbrev FLe : F2 := FCmp fun i j => decide (i ≤ j)
abbrev FGt : F2 := FCmp fun i j => decide (j < i)
abbrev FGe : F2 := FCmp fun i j => decide (j ≤ i)
theorem ao_lt : AOp X (compareOp .Lt) FLt := ao_cmp op_lt
theorem ao_le : AOp X (compareOp .LtE) FLe := ao_cmp op_le
theorem ao_gt : AOp X (compareOp .Gt) FGt := ao_cmp op_gt
theorem ao_ge : AOp X (compareOp .GtE) FGe := ao_cmp op_ge
/-! ### sameness of data -/
mutual
/-- data that == tells as it is: no bools, no dicts, at most n deep -/
def cmp : Nat → D → Bool
  | _, .non => true
  | _, .int _ => true
  | _, .str s => PyData.strOk s
  | n + 1, .tup ds => cmps n ds
  | n + 1, .lst ds => cmps n ds
  | _, _ => false
def cmps : Nat → List D → Bool
  | _, [] => true
  | n, d :: ds => cmp n d && cmps n ds
end
mutual
def toP : D → PyData
  | .non => .none
  | .bl b => .bool b
  | .int i => .int i
  | .str s => .str s
  | .tup ds => .tuple (toPs ds)
  | .lst ds => .list (toPs ds)
  | .dct _ => .none
  | .xt _ => .none
def toPs : List D → List PyData
  | [] => []
  | d :: ds => toP d :: toPs ds
end
mutual
theorem cmp_lay : ∀ {n : Nat} {d : D}, cmp n d = true → (toP d).canLay0 = true ∧ (toP d).depth ≤ n + 1
  | n, .non, _ => ⟨by simp [toP, PyData.canLay0], by simp [toP, PyData.depth]⟩
  | n, .int i, _ => ⟨by simp [toP, PyData.canLay0], by simp [toP, PyData.depth]⟩
  | n, .str s, h => ⟨by simpa [toP, PyData.canLay0, cmp] using h, by simp [toP, PyData.depth]⟩
  | 0, .tup ds, h => by simp [cmp] at h
  | 0, .lst ds, h => by simp [cmp] at h
  | n + 1, .tup ds, h => by
    have q := cmps_lay (n := n) (ds := ds) (by simpa [cmp] using h)
    refine ⟨by simpa [toP, PyData.canLay0] using q.1, ?_⟩
    have := q.2
    simp only [toP, PyData.depth]
    omega
  | n + 1, .lst ds, h => by
    have q := cmps_lay (n := n) (ds := ds) (by simpa [cmp] using h)
    refine ⟨by simpa [toP, PyData.canLay0] using q.1, ?_⟩
    have := q.2
    simp only [toP, PyData.depth]
    omega
  | n, .bl _, h => by simp [cmp] at h
  | n, .dct _, h => by simp [cmp] at h
  | n, .xt _, h => by simp [cmp] at h
theorem cmps_lay : ∀ {n : Nat} {ds : List D}, cmps n ds = true → PyData.canLayAll0 (toPs ds) = true ∧ PyData.depthAll (toPs ds) ≤ n + 1
  | n, [], _ => ⟨by simp [toPs, PyData.canLayAll0], by simp [toPs, PyData.depthAll]⟩
  | n, d :: ds, h => by
    have h' : cmp n d = true ∧ cmps n ds = true := by simpa [cmps] using h
    have q := cmp_lay h'.1
    have q2 := cmps_lay h'.2
    refine ⟨by simp [toPs, PyData.canLayAll0, q.1, q2.1], ?_⟩
    simp only [toPs, PyData.depthAll]
    have := q.2
    have := q2.2
    omega
end
mutual
theorem eqv_iff : ∀ {n m : Nat} {d e : D}, cmp n d = true → cmp m e = true → (PyData.eqv (toP d) (toP e) = true ↔ d = e)
  | n, m, .non, e, _, h => by cases e <;> simp [toP, PyData.eqv, cmp] at h ⊢
  | n, m, .int i, e, _, h => by cases e <;> simp [toP, PyData.eqv, cmp] at h ⊢
  | n, m, .str s, e, _, h => by cases e <;> simp [toP, PyData.eqv, cmp] at h ⊢
  | 0, _, .tup ds, _, h, _ => by simp [cmp] at h
  | 0, _, .lst ds, _, h, _ => by simp [cmp] at h
  | n + 1, m, .tup ds, e, g, h => by
    cases e with
    | tup es =>
      cases m with
      | zero => simp [cmp] at h
      | succ m =>
        have q := eqvs_iff (n := n) (m := m) (ds := ds) (es := es) (by simpa [cmp] using g) (by simpa [cmp] using h)
        simp only [toP, PyData.eqv, D.tup.injEq]
        exact q
    | _ => simp [toP, PyData.eqv, cmp] at h ⊢
  | n + 1, m, .lst ds, e, g, h => by
    cases e with
    | lst es =>
      cases m with
      | zero => simp [cmp] at h
      | succ m =>
        have q := eqvs_iff (n := n) (m := m) (ds := ds) (es := es) (by simpa [cmp] using g) (by simpa [cmp] using h)
        simp only [toP, PyData.eqv, D.lst.injEq]
        exact q
    | _ => simp [toP, PyData.eqv, cmp] at h ⊢
  | n, m, .bl _, _, h, _ => by simp [cmp] at h
  | n, m, .dct _, _, h, _ => by simp [cmp] at h
  | n, m, .xt _, _, h, _ => by simp [cmp] at h
theorem eqvs_iff : ∀ {n m : Nat} {ds es : List D}, cmps n ds = true → cmps m es = true → (PyData.eqvAll (toPs ds) (toPs es) = true ↔ ds = es)
  | n, m, [], es, _, _ => by cases es <;> simp [toPs, PyData.eqvAll]
  | n, m, d :: ds, es, g, h => by
    cases es with
    | nil => simp [toPs, PyData.eqvAll]
    | cons e es =>
      have g' : cmp n d = true ∧ cmps n ds = true := by simpa [cmps] using g
      have h' : cmp m e = true ∧ cmps m es = true := by simpa [cmps] using h
      have q := eqv_iff g'.1 h'.1
      have q2 := eqvs_iff g'.2 h'.2
      simp only [toPs, PyData.eqvAll, Bool.and_eq_true, List.cons.injEq]
      rw [q, q2]
end
mutual
theorem R.dp {K : PySem.W.Frag} {G H : Hp} (e : Ex G H) : ∀ {n : Nat} {d : D} {v : V}, cmp n d = true → R G d v → Dp K H v (toP d)
  | _, .non, _, _, h => by cases h; exact .non
  | _, .int i, _, _, h => by cases h; exact .int i
  | _, .str s, _, _, h => by cases h; exact .str s
  | 0, .tup ds, _, h, _ => by simp [cmp] at h
  | 0, .lst ds, _, h, _ => by simp [cmp] at h
  | n + 1, .tup ds, _, g, h => by
    obtain ⟨a, vs, rfl, h1, h2⟩ := h
    exact .tup (SqT.of (e _ _ h1)) (Rs.dp e (n := n) (by simpa [cmp] using g) h2)
  | n + 1, .lst ds, _, g, h => by
    obtain ⟨a, vs, rfl, h1, h2⟩ := h
    exact .lst (SqL.of (e _ _ h1)) (Rs.dp e (n := n) (by simpa [cmp] using g) h2)
  | _, .bl _, _, h, _ => by simp [cmp] at h
  | _, .dct _, _, h, _ => by simp [cmp] at h
  | _, .xt _, _, h, _ => by simp [cmp] at h
theorem Rs.dp {K : PySem.W.Frag} {G H : Hp} (e : Ex G H) : ∀ {n : Nat} {ds : List D} {vs : List V}, cmps n ds = true → Rs G ds vs → DpAll K H vs (toPs ds)
  | _, [], _, _, h => by cases h; exact .nil
  | n, d :: ds, _, g, h => by
    obtain ⟨v, r, rfl, h1, h2⟩ := h
    have g' : cmp n d = true ∧ cmps n ds = true := by simpa [cmps] using g
    exact .cons (R.dp e g'.1 h1) (Rs.dp e g'.2 h2)
end
open Classical in
noncomputable def same (x y : D) : Bool := decide (x = y)
theorem same_iff {x y : D} : same x y = true ↔ x = y := by unfold same; simp
theorem same_self {x : D} : same x x = true := same_iff.mpr rfl
theorem same_no {x y : D} (h : x ≠ y) : same x y = false := by
  cases e : same x y with
  | false => rfl
  | true => exact absurd (same_iff.mp e) h
theorem same_of {x y : D} {b : Bool} (h : b = true ↔ x = y) : same x y = b := by
  cases b with
  | true => exact same_iff.mpr (h.mp rfl)
  | false => exact same_no fun e => by have := h.mpr e; cases this
theorem cmp_shaped {d : D} (h : cmp 9 d = true) : SeqAt.shaped (toP d) = true := by
  obtain ⟨h1, h2⟩ := cmp_lay h
  unfold SeqAt.shaped
  rw [h1, Bool.true_and, decide_eq_true_iff]
  omega
/-- x == y, of data that == tells as it is -/
def FEq : F2 := fun x y P => cmp 9 x = true ∧ cmp 9 y = true ∧ P (.bl (same x y))
def FNe : F2 := fun x y P => cmp 9 x = true ∧ cmp 9 y = true ∧ P (.bl (!same x y))
theorem eqv_same {x y : D} (h1 : cmp 9 x = true) (h2 : cmp 9 y = true) : PyData.eqv (toP x) (toP y) = same x y := (same_of (eqv_iff h1 h2)).symm
theorem ao_eq (hu : X.A.units + 64 < cLine) : AOp X (compareOp .Eq) FEq :=
  ⟨_, op_eqD hu, fun H G x y dx dy P Q e hx hy ⟨h1, h2, h⟩ k => ⟨_, _, hx.dp e h1, hy.dp e h2, cmp_shaped h1, cmp_shaped h2, by rw [eqv_same h1 h2]; exact (k _ h).bl⟩⟩
theorem ao_ne (hu : X.A.units + 64 < cLine) : AOp X (compareOp .NotEq) FNe :=
  ⟨_, op_neD hu, fun H G x y dx dy P Q e hx hy ⟨h1, h2, h⟩ k => ⟨_, _, hx.dp e h1, hy.dp e h2, cmp_shaped h1, cmp_shaped h2, by rw [eqv_same h1 h2]; exact (k _ h).bl⟩⟩
/-- x is None -/
def isNon : D → Bool
  | .non => true
  | _ => false
def FIsN : F2 := fun x y P => match y with
  | .non => P (.bl (isNon x))
  | _ => False
def FNotN : F2 := fun x y P => match y with
  | .non => P (.bl (!isNon x))
  | _ => False
theorem isNon_of {G : Hp} {d : D} {v : V} (h : R G d v) : decide (v = .non) = isNon d := by
  cases d with
  | non => cases h; rfl
  | bl b => cases h; rfl
  | int i => cases h; rfl
  | str s => cases h; rfl
  | tup ds => obtain ⟨a, vs, rfl, _⟩ := h; rfl
  | lst ds => obtain ⟨a, vs, rfl, _⟩ := h; rfl
  | dct ds => obtain ⟨a, vs, rfl, _⟩ := h; rfl
  | xt ds => obtain ⟨a, vs, o, rfl, _⟩ := h; rfl
theorem ao_isN : AOp X (compareOp .Is) FIsN := by
  refine ⟨_, op_isN, fun H G x y dx dy P Q e hx hy h k => ?_⟩
  cases dy with
  | non =>
    refine ⟨hy, ?_⟩
    rw [isNon_of hx]
    exact (k _ h).bl
  | _ => exact h.elim
theorem ao_notN : AOp X (compareOp .IsNot) FNotN := by
  refine ⟨_, op_notN, fun H G x y dx dy P Q e hx hy h k => ?_⟩
  cases dy with
  | non =>
    refine ⟨hy, ?_⟩
    rw [isNon_of hx]
    exact (k _ h).bl
  | _ => exact h.elim
/-- x is not False, of a bool -/
def FNotB : F2 := fun x y P => match x, y with
  | .bl a, .bl b => P (.bl (!decide (a = b)))
  | _, _ => False
theorem ao_notB : AOp X (compareOp .IsNot) FNotB := by
  refine ⟨_, op_isnot_bl, fun H G x y dx dy P Q e hx hy h k => ?_⟩
  cases dx with
  | bl i => cases dy with
    | bl j => exact ⟨i, j, hx, hy, (k _ h).bl⟩
    | _ => exact h.elim
  | _ => exact h.elim
/-! ### x in xs -/
def flatD : D → Bool
  | .non => true
  | .int _ => true
  | .str _ => true
  | _ => false
noncomputable def inD (x : D) (xs : List D) : Bool := xs.any fun y => same y x
theorem flat_of {G : Hp} {d : D} {v : V} (f : flatD d = true) (h : R G d v) : flatV v = true := by
  cases d with
  | non => cases h; rfl
  | int i => cases h; rfl
  | str s => cases h; rfl
  | _ => cases f
theorem flats_of {G : Hp} : ∀ {ds : List D} {vs : List V}, ds.all flatD = true → Rs G ds vs → vs.all flatV = true
  | [], _, _, h => by cases h; rfl
  | d :: ds, _, f, h => by
    obtain ⟨v, r, rfl, h1, h2⟩ := h
    rw [List.all_cons, Bool.and_eq_true] at f
    rw [List.all_cons, flat_of f.1 h1, flats_of f.2 h2]
    rfl
theorem eqV_of {G : Hp} {d e : D} {v w : V} (f : flatD d = true) (g : flatD e = true) (h : R G d v) (k : R G e w) : eqV v w = same d e := by
  symm
  refine same_of ?_
  cases d with
  | non => cases h; cases e with
    | non => cases k; simp [eqV]
    | int j => cases k; simp [eqV]
    | str j => cases k; simp [eqV]
    | _ => cases g
  | int i => cases h; cases e with
    | non => cases k; simp [eqV]
    | int j => cases k; simp [eqV]
    | str j => cases k; simp [eqV]
    | _ => cases g
  | str i => cases h; cases e with
    | non => cases k; simp [eqV]
    | int j => cases k; simp [eqV]
    | str j => cases k; simp [eqV]
    | _ => cases g
  | _ => cases f
theorem inV_of {G : Hp} {x : D} {v : V} (f : flatD x = true) (h : R G x v) : ∀ {ds : List D} {vs : List V}, ds.all flatD = true → Rs G ds vs → inV v vs = inD x ds
  | [], _, _, h => by cases h; rfl
  | d :: ds, _, g, k => by
    obtain ⟨w, r, rfl, h1, h2⟩ := k
    rw [List.all_cons, Bool.and_eq_true] at g
    unfold inV inD
    rw [List.any_cons, List.any_cons, eqV_of g.1 f h1 h]
    have ih := inV_of f h g.2 h2
    unfold inV inD at ih
    rw [ih]
def FIn : F2 := fun x y P => match x, y with
  | .str s, .str t => match s.cps.toList with
    | [c] => P (.bl (decide (c ∈ t.cps.toList)))
    | _ => False
  | x, .lst ys => flatD x = true ∧ ys.all flatD = true ∧ P (.bl (inD x ys))
  | x, .tup ys => flatD x = true ∧ ys.all flatD = true ∧ P (.bl (inD x ys))
  | _, _ => False
def FNi : F2 := fun x y P => FIn x y fun d => match d with
  | .bl b => P (.bl (!b))
  | _ => False
theorem one_sign {s : Str} {c : Nat} (h : s.cps.toList = [c]) : s = ⟨#[c]⟩ := by
  cases s with
  | mk a =>
    cases a with
    | mk l =>
      simp at h
      subst h
      rfl
theorem ao_inG {f : Value → Value → Sem Value} {neg : Bool} {F : F2} (h1 : OpR X f (rIn X.K neg)) (h2 : OpR X f (fun x y H Q => ∃ (c : Nat) (z : Str), x = .str ⟨#[c]⟩ ∧ y = .str z ∧ Q (.bl (if neg then !decide (c ∈ z.cps.toList) else decide (c ∈ z.cps.toList))) H))
    (hF : ∀ x y P, F x y P → FIn x y fun d => match d with | .bl b => P (.bl (if neg then !b else b)) | _ => False) : AOp X f F := by
  refine ⟨_, OpR.or h1 h2, fun H G x y dx dy P Q e hx hy h k => ?_⟩
  have h := hF _ _ _ h
  have go : ∀ {ys : List D} {p : Addr} {ws : List V}, y = .ref p → (SqL X.K H p ws ∨ SqT X.K H p ws) → Rs G ys ws → flatD dx = true ∧ ys.all flatD = true ∧ P (.bl (if neg then !inD dx ys else inD dx ys)) → rIn X.K neg x y H Q := fun {ys p ws} ey hq hr ⟨f1, f2, q⟩ => by
    refine ⟨p, ws, ey, hq, flat_of f1 hx, flats_of f2 hr, ?_⟩
    rw [inV_of f1 hx f2 hr]
    exact (k _ q).bl
  cases dy with
  | lst ys =>
    obtain ⟨p, ws, q1, q2, q3⟩ := hy
    refine .inl (go q1 (.inl (SqL.of (e _ _ q2))) q3 ?_)
    cases dx <;> exact h
  | tup ys =>
    obtain ⟨p, ws, q1, q2, q3⟩ := hy
    refine .inl (go q1 (.inr (SqT.of (e _ _ q2))) q3 ?_)
    cases dx <;> exact h
  | str t =>
    cases dx with
    | str s =>
      have h : (match s.cps.toList with | [c] => P (.bl (if neg then !decide (c ∈ t.cps.toList) else decide (c ∈ t.cps.toList))) | _ => False) := by
        unfold FIn at h
        revert h
        simp only
        split
        · exact id
        · exact id
      split at h
      · rename_i c hc
        refine .inr ⟨c, t, ?_, hy, (k _ h).bl⟩
        rw [← one_sign hc]
        exact hx
      · exact h.elim
    | _ => exact h.elim
  | _ => cases dx <;> exact h.elim
theorem FIn.imp {x y : D} {P P' : D → Prop} (h : FIn x y P) (k : ∀ b, P (.bl b) → P' (.bl b)) : FIn x y P' := by
  cases y with
  | lst ys => cases x <;> exact ⟨h.1, h.2.1, k _ h.2.2⟩
  | tup ys => cases x <;> exact ⟨h.1, h.2.1, k _ h.2.2⟩
  | str t =>
    cases x with
    | str s =>
      unfold FIn at h ⊢
      revert h
      simp only
      split
      · exact k _
      · exact id
    | _ => exact h.elim
  | _ => cases x <;> exact h.elim
theorem ao_in : AOp X (compareOp .In) FIn := ao_inG (neg := false) op_in_seq op_in_sign fun x y P h => h.imp fun b q => q
theorem ao_ni : AOp X (compareOp .NotIn) FNi := ao_inG (neg := true) op_notIn_seq op_notIn_sign fun x y P h => h.imp fun b q => q
end
end Ab


namespace Ab
open PySem L2
/-! ### readings without heaps -/
abbrev XA := Err → Option Stk → Prop
abbrev FE := XA → A → (D → A → Prop) → Prop
abbrev FT := XA → A → (Bool → A → Prop) → Prop
abbrev FA := XA → A → (List AV → A → Prop) → Prop
abbrev FL := XA → A → (List D → A → Prop) → Prop
abbrev FK := XA → A → (List (Str × D) → A → Prop) → Prop
def WOk (Z : Cl) (B : Base) (W : WX) (E : XA) : Prop := ∀ err σ H G S c d, RelS Z B H G S → E err S → ErrAt Z err c d H → W c d σ H
/-- an expression by its value -/
structure AE (X : Cx) (Z : Cl) (W : WX) (e : Expr) (f : FE) : Prop where
  ex : ∃ t, PE X e t ∧ ∀ B σ H G a P Q E, Rel Z B σ H G a → WOk Z B W E → f E a P → (∀ d a' v H' G', P d a' → Ex G G' → Rel Z B σ H' G' a' → R G' d v → Q v H') → t σ H Q
/-- a test -/
structure AT (X : Cx) (Z : Cl) (W : WX) (e : Expr) (f : FT) : Prop where
  ex : ∃ t, PT X e t ∧ ∀ B σ H G a P Q E, Rel Z B σ H G a → WOk Z B W E → f E a P → (∀ b a' H' G', P b a' → Ex G G' → Rel Z B σ H' G' a' → Q b H') → t σ H Q
structure AW (X : Cx) (Z : Cl) (W : WX) (e : Expr) (f : FT) : Prop where
  ex : ∃ t, PW X e t ∧ ∀ B σ H G a P Q E, Rel Z B σ H G a → WOk Z B W E → f E a P → (∀ b a' H' G', P b a' → Ex G G' → Rel Z B σ H' G' a' → Q b H') → t σ H Q
/-- arguments -/
def AV.passes : AV → Bool
  | .im _ => true
  | .stk => true
  | .rng => true
  | _ => false
def Args (B : Base) (H G : Hp) : List AV → List V → Prop
  | [], vs => vs = []
  | x :: xs, vs => ∃ v r, vs = v :: r ∧ x.passes = true ∧ SlotR B H G x v ∧ Args B H G xs r
structure AA (X : Cx) (Z : Cl) (W : WX) (es : List Expr) (f : FA) : Prop where
  ex : ∃ t, PA X es t ∧ ∀ B σ H G a P Q E, Rel Z B σ H G a → WOk Z B W E → f E a P → (∀ xs a' vs H' G', P xs a' → Ex G G' → Rel Z B σ H' G' a' → Args B H' G' xs vs → Q vs H') → t σ H Q
/-- a list that is read: known, or one's own -/
structure AL (X : Cx) (Z : Cl) (W : WX) (e : Expr) (f : FL) : Prop where
  ex : ∃ t, PE X e t ∧ ∀ B σ H G a P Q E, Rel Z B σ H G a → WOk Z B W E → f E a P → (∀ ds a' p vs H' G', P ds a' → Ex G G' → Rel Z B σ H' G' a' → H' p = some (.lst vs) → Rs G' ds vs → Q (.ref p) H') → t σ H Q
/-- a dict that is read: known, one's own, or the stack's -/
structure AD (X : Cx) (Z : Cl) (W : WX) (e : Expr) (f : FK) : Prop where
  ex : ∃ t, PE X e t ∧ ∀ B σ H G a P Q E, Rel Z B σ H G a → WOk Z B W E → f E a P → (∀ ks a' p ws H' G', P ks a' → Ex G G' → Rel Z B σ H' G' a' → H' p = some (.dK ws) → Rk G' ks ws → Q (.ref p) H') → t σ H Q
/-- something new: a list, a dict -/
def NewR (G : Hp) : AV → HO → Prop
  | .owl ds, .lst vs => Rs G ds vs
  | .owd ks, .dK ws => Rk G ks ws
  | _, _ => False
abbrev FN := XA → A → (AV → A → Prop) → Prop
structure AN (X : Cx) (Z : Cl) (W : WX) (e : Expr) (f : FN) : Prop where
  ex : ∃ t, PE X e t ∧ ∀ B σ H G a P Q E, Rel Z B σ H G a → WOk Z B W E → f E a P → (∀ x a' p o H' G', P x a' → Ex G G' → Rel Z B σ H' G' a' → H' p = none → NewR G' x o → Q (.ref p) (upd H' p o)) → t σ H Q
def AV.data : AV → D
  | .im d => d
  | .owl ds => .lst ds
  | .owd ks => .dct ks
  | _ => .non
theorem NewR.r {G : Hp} {x : AV} {o : HO} {p : Addr} (h : NewR G x o) (n : G p = none) : R (upd G p o) x.data (.ref p) := by
  cases x with
  | owl ds => cases o with
    | lst vs => exact ⟨p, vs, rfl, upd_same, h.mono (Ex.new n)⟩
    | _ => exact h.elim
  | owd ds => cases o with
    | dK vs => exact ⟨p, vs, rfl, upd_same, h.mono (Ex.new n)⟩
    | _ => exact h.elim
  | _ => cases o <;> exact h.elim
section
variable {X : Cx} {Z : Cl} {W : WX} {e e1 e2 e3 : Expr} {f g h : FE} {pos : Pos}
/-! ### names, constants -/
def fVar (i : Nat) : FE := fun _ a P => match a.ρ[i]? with
  | some (some (.im d)) => P d a
  | some (some (.owl ds)) => P (.lst ds) (a.put i (.im (.lst ds)))
  | some (some (.owd ks)) => P (.dct ks) (a.put i (.im (.dct ks)))
  | _ => False
theorem av (i : Nat) {x : Str} (hN : X.N[i]? = some x := by rfl) (hv : Vis X.env.scope x := by first | exact Or.inl rfl | exact Or.inr (Or.inl rfl) | exact Or.inr (Or.inr rfl)) (hd : (x == ("__debug__" : Str)) = false := by decide)
    (hcd : (x == ("__classdict__" : Str)) = false := by decide) : AE X Z W (.Name x pos) (fVar i) := by
  refine ⟨_, pe_var hN hv hd hcd, fun B σ H G a P Q E r _ h k => ?_⟩
  unfold fVar at h
  split at h
  · rename_i d hi
    obtain ⟨v, h1, h2⟩ := r.sl i _ hi
    exact ⟨v, h1, k _ _ _ _ _ h (Ex.refl _) r h2⟩
  · rename_i d hi
    obtain ⟨p, G', h1, h2, h3, h4⟩ := r.freeze hi
    exact ⟨_, h1, k _ _ _ _ _ h h3 h4 h2⟩
  · rename_i d hi
    obtain ⟨p, G', h1, h2, h3, h4⟩ := r.freezeD hi
    exact ⟨_, h1, k _ _ _ _ _ h h3 h4 h2⟩
  · exact h.elim
def fC (d : D) : FE := fun _ a P => P d a
theorem ae_c {v : V} {d : D} (p : PE X e (tC v)) (r : ∀ G, R G d v) : AE X Z W e (fC d) := ⟨_, p, fun B σ H G a P Q E rl _ h k => k _ _ _ _ _ h (Ex.refl _) rl (r _)⟩
theorem ai {i j} : AE X Z W (.Constant (.int i) j pos) (fC (.int i)) := ae_c pe_int fun _ => rfl
theorem ab {i j} : AE X Z W (.Constant (.bool i) j pos) (fC (.bl i)) := ae_c pe_bl fun _ => rfl
theorem an {j} : AE X Z W (.Constant .none j pos) (fC .non) := ae_c pe_non fun _ => rfl
theorem as {i j} : AE X Z W (.Constant (.str i) j pos) (fC (.str i)) := ae_c pe_str fun _ => rfl
theorem ag {x s : Str} {t : Tok} (hm : X.mg x = some (.str s t)) (hg : Gl X x) (hd : (x == ("__debug__" : Str)) = false := by decide) : AE X Z W (.Name x pos) (fC (.str s)) := ae_c (pe_glob hg hm (v := .str s) ⟨t, rfl⟩ hd) fun _ => rfl
/-! ### operators -/
def fOp (F : F2) (f g : FE) : FE := fun E a P => f E a fun x a1 => g E a1 fun y a2 => F x y fun d => P d a2
theorem snd_op {r : R2} {F : F2} {ta tb : TE} (sa : ∀ B σ H G a P Q E, Rel Z B σ H G a → WOk Z B W E → f E a P → (∀ d a' v H' G', P d a' → Ex G G' → Rel Z B σ H' G' a' → R G' d v → Q v H') → ta σ H Q)
    (sb : ∀ B σ H G a P Q E, Rel Z B σ H G a → WOk Z B W E → g E a P → (∀ d a' v H' G', P d a' → Ex G G' → Rel Z B σ H' G' a' → R G' d v → Q v H') → tb σ H Q)
    (hr : ∀ (H G : Hp) (x y : V) (dx dy : D) (P : D → Prop) (Q : VK), Ex G H → R G dx x → R G dy y → F dx dy P → (∀ d, P d → Out G H d Q) → r x y H Q) :
    ∀ B σ H G a P Q E, Rel Z B σ H G a → WOk Z B W E → fOp F f g E a P → (∀ d a' v H' G', P d a' → Ex G G' → Rel Z B σ H' G' a' → R G' d v → Q v H') → tOp r ta tb σ H Q := fun B σ H G a P Q E rl w h k => by
  refine sa B σ H G a _ _ E rl w h fun x a1 v H1 G1 h1 e1 r1 x1 => ?_
  refine sb B σ H1 G1 a1 _ _ E r1 w h1 fun y a2 u H2 G2 h2 e2 r2 y2 => ?_
  refine hr H2 G2 v u x y _ _ r2.gh (x1.mono e2) y2 h2 fun d hd => ⟨fun z hz => k _ _ _ _ _ hd (e1.trans e2) r2 hz, fun p o hp hz => k _ _ _ _ _ hd ((e1.trans e2).trans (r2.ex hp)) (r2.known hp) hz⟩
theorem ao {op : Operator} {F : F2} (o : AOp X (binaryOp op) F) (a : AE X Z W e1 f) (b : AE X Z W e2 g) : AE X Z W (.BinOp e1 op e2 pos) (fOp F f g) := by
  obtain ⟨r, hr, hs⟩ := o.ex
  obtain ⟨ta, pa, sa⟩ := a.ex
  obtain ⟨tb, pb, sb⟩ := b.ex
  exact ⟨_, pe_op hr pa pb, snd_op sa sb hs⟩
/-- -n -/
def fNeg (f : FE) : FE := fun E a P => f E a fun x a1 => match x with
  | .int i => P (.int (-i)) a1
  | _ => False
theorem aneg (a : AE X Z W e f) : AE X Z W (.UnaryOp .USub e pos) (fNeg f) := by
  obtain ⟨ta, pa, sa⟩ := a.ex
  refine ⟨_, pe_un un_neg pa, fun B σ H G a P Q E rl w h k => sa B σ H G a _ _ E rl w h fun x a1 v H1 G1 h1 e1 r1 x1 => ?_⟩
  cases x with
  | int i => exact ⟨i, x1, k _ _ _ _ _ h1 e1 r1 rfl⟩
  | _ => exact h1.elim
theorem acmp {op : CmpOp} {F : F2} (o : AOp X (compareOp op) F) (a : AE X Z W e1 f) (b : AE X Z W e2 g) (hm : behindInMarks op e2 = false) : AE X Z W (.Compare e1 [op] [e2] pos) (fOp F f g) := by
  obtain ⟨r, hr, hs⟩ := o.ex
  obtain ⟨ta, pa, sa⟩ := a.ex
  obtain ⟨tb, pb, sb⟩ := b.ex
  exact ⟨_, pe_cmpR hr pa pb hm, snd_op sa sb hs⟩
/-! ### tests -/
/-- a value that is a bool, as a test -/
def tB (f : FE) : FT := fun E a P => f E a fun d a' => match d with
  | .bl b => P b a'
  | _ => False
theorem tcmp {op : CmpOp} {F : F2} (o : AOp X (compareOp op) F) (a : AE X Z W e1 f) (b : AE X Z W e2 g) (hm : behindInMarks op e2 = false) : AT X Z W (.Compare e1 [op] [e2] pos) (tB (fOp F f g)) := by
  obtain ⟨r, hr, hs⟩ := o.ex
  obtain ⟨ta, pa, sa⟩ := a.ex
  obtain ⟨tb, pb, sb⟩ := b.ex
  refine ⟨_, pt_cmpR hr pa pb hm, fun B σ H G a P Q E rl w h k => snd_op sa sb hs B σ H G a _ _ E rl w h fun d a' v H' G' h1 e1 r1 x1 => ?_⟩
  cases d with
  | bl b => exact ⟨b, x1, k _ _ _ _ h1 e1 r1⟩
  | _ => exact h1.elim
/-- a < b < c -/
def fChain (F F' : F2) (f g h : FE) : FE := fun E a P => f E a fun x a1 => g E a1 fun y a2 => F x y fun z => match z with
  | .bl true => h E a2 fun w a3 => F' y w fun d => P d a3
  | .bl false => P (.bl false) a2
  | _ => False
theorem snd_chain {r r' : R2} {F F' : F2} {ta tb tc : TE} (sa : ∀ B σ H G a P Q E, Rel Z B σ H G a → WOk Z B W E → f E a P → (∀ d a' v H' G', P d a' → Ex G G' → Rel Z B σ H' G' a' → R G' d v → Q v H') → ta σ H Q)
    (sb : ∀ B σ H G a P Q E, Rel Z B σ H G a → WOk Z B W E → g E a P → (∀ d a' v H' G', P d a' → Ex G G' → Rel Z B σ H' G' a' → R G' d v → Q v H') → tb σ H Q)
    (sc : ∀ B σ H G a P Q E, Rel Z B σ H G a → WOk Z B W E → h E a P → (∀ d a' v H' G', P d a' → Ex G G' → Rel Z B σ H' G' a' → R G' d v → Q v H') → tc σ H Q)
    (hr : ∀ (H G : Hp) (x y : V) (dx dy : D) (P : D → Prop) (Q : VK), Ex G H → R G dx x → R G dy y → F dx dy P → (∀ d, P d → Out G H d Q) → r x y H Q)
    (hr' : ∀ (H G : Hp) (x y : V) (dx dy : D) (P : D → Prop) (Q : VK), Ex G H → R G dx x → R G dy y → F' dx dy P → (∀ d, P d → Out G H d Q) → r' x y H Q) :
    ∀ B σ H G a P Q E, Rel Z B σ H G a → WOk Z B W E → fChain F F' f g h E a P → (∀ d a' v H' G', P d a' → Ex G G' → Rel Z B σ H' G' a' → R G' d v → Q v H') → tChain r r' ta tb tc σ H Q := fun B σ H G a P Q E rl w h k => by
  refine sa B σ H G a _ _ E rl w h fun x a1 v H1 G1 h1 e1 r1 x1 => ?_
  refine sb B σ H1 G1 a1 _ _ E r1 w h1 fun y a2 u H2 G2 h2 e2 r2 y2 => ?_
  refine hr H2 G2 v u x y _ _ r2.gh (x1.mono e2) y2 h2 fun d hd => ?_
  have go : ∀ (z : V) (H3 G3 : Hp), Ex G2 G3 → Rel Z B σ H3 G3 a2 → R G3 d z → ∃ k, z = .bl k ∧ (if k = true then tc σ H3 fun w' H4 => r' u w' H4 Q else Q (.bl false) H3) := fun z H3 G3 e3 r3 hz => by
    match d, hd, hz with
    | .bl true, hd, hz =>
      refine ⟨true, hz, ?_⟩
      rw [if_pos rfl]
      refine sc B σ H3 G3 a2 _ _ E r3 w hd fun y' a3 u' H4 G4 h4 e4 r4 y4 => ?_
      exact hr' H4 G4 u u' y y' _ _ r4.gh (y2.mono (e3.trans e4)) y4 h4 fun d' hd' => ⟨fun z hz => k _ _ _ _ _ hd' (((e1.trans e2).trans e3).trans e4) r4 hz, fun p o hp hz => k _ _ _ _ _ hd' ((((e1.trans e2).trans e3).trans e4).trans (r4.ex hp)) (r4.known hp) hz⟩
    | .bl false, hd, hz =>
      refine ⟨false, hz, ?_⟩
      rw [if_neg Bool.false_ne_true]
      exact k _ _ _ _ _ hd ((e1.trans e2).trans e3) r3 rfl
  exact ⟨fun z hz => go z H2 G2 (Ex.refl _) r2 hz, fun p o hp hz => go _ _ _ (r2.ex hp) (r2.known hp) hz⟩
theorem tchain {op op' : CmpOp} {F F' : F2} (o : AOp X (compareOp op) F) (o' : AOp X (compareOp op') F') (a : AE X Z W e1 f) (b : AE X Z W e2 g) (c : AE X Z W e3 h) (hm : lastMarks [op, op'] [e2, e3] = false := by with_unfolding_all rfl) :
    AT X Z W (.Compare e1 [op, op'] [e2, e3] pos) (tB (fChain F F' f g h)) := by
  obtain ⟨r, hr, hs⟩ := o.ex
  obtain ⟨r', hr', hs'⟩ := o'.ex
  obtain ⟨ta, pa, sa⟩ := a.ex
  obtain ⟨tb, pb, sb⟩ := b.ex
  obtain ⟨tc, pc, sc⟩ := c.ex
  refine ⟨_, pt_chain hr hr' pa pb pc hm, fun B σ H G a P Q E rl w h k => snd_chain sa sb sc hs hs' B σ H G a _ _ E rl w h fun d a' v H' G' h1 e1 r1 x1 => ?_⟩
  cases d with
  | bl b => exact ⟨b, x1, k _ _ _ _ h1 e1 r1⟩
  | _ => exact h1.elim
/-- a call, a name .. that gives a bool -/
theorem tval (a : AE X Z W e f) (he : ∀ whole, isTrue e X.env whole = (do let v ← whole; standAt e.pos; holding [v] (truthy v)) := by intro _; rfl) : AT X Z W e (tB f) := by
  obtain ⟨ta, pa, sa⟩ := a.ex
  refine ⟨_, pt_val pa he, fun B σ H G a P Q E rl w h k => sa B σ H G a _ _ E rl w h fun d a' v H' G' h1 e1 r1 x1 => ?_⟩
  cases d with
  | bl b => exact ⟨b, x1, k _ _ _ _ h1 e1 r1⟩
  | _ => exact h1.elim
/-- a list's truth -/
def tLst (f : FL) : FT := fun E a P => f E a fun ds a' => P (!ds.isEmpty) a'
theorem ttru {f : FL} (a : AL X Z W e f) (he : ∀ whole, isTrue e X.env whole = (do let v ← whole; standAt e.pos; holding [v] (truthy v)) := by intro _; rfl) : AT X Z W e (tLst f) := by
  obtain ⟨ta, pa, sa⟩ := a.ex
  refine ⟨_, pt_truth pa he, fun B σ H G a P Q E rl w h k => sa B σ H G a _ _ E rl w h fun ds a' p vs H' G' h1 e1 r1 x1 x2 => ?_⟩
  refine ⟨!ds.isEmpty, .inl ⟨vs, SqL.of x1, ?_⟩, k _ _ _ _ h1 e1 r1⟩
  have := x2.len
  cases ds <;> cases vs <;> simp_all
variable {s t u : FT} {rest : List Expr}
def fAnd (s t : FT) : FT := fun E a P => s E a fun b a' => if b = true then t E a' P else P false a'
def fOr (s t : FT) : FT := fun E a P => s E a fun b a' => if b = true then P true a' else t E a' P
def fNot (s : FT) : FT := fun E a P => s E a fun b a' => P (!b) a'
theorem AW.at (w : AW X Z W e s) : AT X Z W e s := by
  obtain ⟨t, p, h⟩ := w.ex
  exact ⟨t, p.pt, h⟩
theorem wand1 (a : AT X Z W e s) : AW X Z W (.BoolOp .And [e] pos) s := by
  obtain ⟨t, p, h⟩ := a.ex
  exact ⟨_, pw_and1 p, h⟩
theorem wor1 (a : AT X Z W e s) : AW X Z W (.BoolOp .Or [e] pos) s := by
  obtain ⟨t, p, h⟩ := a.ex
  exact ⟨_, pw_or1 p, h⟩
theorem wand (a : AT X Z W e s) (b : AW X Z W (.BoolOp .And (e1 :: rest) pos) t) : AW X Z W (.BoolOp .And (e :: e1 :: rest) pos) (fAnd s t) := by
  obtain ⟨ta, pa, sa⟩ := a.ex
  obtain ⟨tb, pb, sb⟩ := b.ex
  refine ⟨_, pw_and pa pb, fun B σ H G a P Q E rl w h k => sa B σ H G a _ _ E rl w h fun b a' H' G' h1 e1 r1 => ?_⟩
  cases b with
  | true =>
    rw [if_pos rfl] at h1 ⊢
    exact sb B σ H' G' a' _ _ E r1 w h1 fun b a2 H2 G2 h2 e2 r2 => k _ _ _ _ h2 (e1.trans e2) r2
  | false =>
    rw [if_neg Bool.false_ne_true] at h1 ⊢
    exact k _ _ _ _ h1 e1 r1
theorem wor (a : AT X Z W e s) (b : AW X Z W (.BoolOp .Or (e1 :: rest) pos) t) : AW X Z W (.BoolOp .Or (e :: e1 :: rest) pos) (fOr s t) := by
  obtain ⟨ta, pa, sa⟩ := a.ex
  obtain ⟨tb, pb, sb⟩ := b.ex
  refine ⟨_, pw_or pa pb, fun B σ H G a P Q E rl w h k => sa B σ H G a _ _ E rl w h fun b a' H' G' h1 e1 r1 => ?_⟩
  cases b with
  | false =>
    rw [if_neg Bool.false_ne_true] at h1 ⊢
    exact sb B σ H' G' a' _ _ E r1 w h1 fun b a2 H2 G2 h2 e2 r2 => k _ _ _ _ h2 (e1.trans e2) r2
  | true =>
    rw [if_pos rfl] at h1 ⊢
    exact k _ _ _ _ h1 e1 r1
theorem tnot (a : AT X Z W e s) : AT X Z W (.UnaryOp .Not e pos) (fNot s) := by
  obtain ⟨ta, pa, sa⟩ := a.ex
  exact ⟨_, pt_not pa, fun B σ H G a P Q E rl w h k => sa B σ H G a _ _ E rl w h fun b a' H' G' h1 e1 r1 => k _ _ _ _ h1 e1 r1⟩
/-- a and b, as a value: bools -/
def vAnd (f g : FE) : FE := fun E a P => f E a fun d a' => match d with
  | .bl true => g E a' P
  | .bl false => P (.bl false) a'
  | _ => False
theorem aone {op : BoolOp} (a : AE X Z W e f) : AE X Z W (.BoolOp op [e] pos) f := by
  obtain ⟨ta, pa, sa⟩ := a.ex
  exact ⟨_, pe_one pa, sa⟩
theorem aand (a : AE X Z W e f) (b : AE X Z W (.BoolOp .And (e1 :: rest) pos) g) : AE X Z W (.BoolOp .And (e :: e1 :: rest) pos) (vAnd f g) := by
  obtain ⟨ta, pa, sa⟩ := a.ex
  obtain ⟨tb, pb, sb⟩ := b.ex
  refine ⟨_, pe_and pa pb, fun B σ H G a P Q E rl w h k => sa B σ H G a _ _ E rl w h fun d a' v H' G' h1 e1 r1 x1 => ?_⟩
  match d, h1, x1 with
  | .bl true, h1, x1 =>
    refine ⟨true, x1, ?_⟩
    rw [if_pos rfl]
    exact sb B σ H' G' a' _ _ E r1 w h1 fun b a2 v H2 G2 h2 e2 r2 x2 => k _ _ _ _ _ h2 (e1.trans e2) r2 x2
  | .bl false, h1, x1 =>
    refine ⟨false, x1, ?_⟩
    rw [if_neg Bool.false_ne_true]
    exact k _ _ _ _ _ h1 e1 r1 rfl
def vIf (s : FT) (f g : FE) : FE := fun E a P => s E a fun b a' => if b = true then f E a' P else g E a' P
theorem aif (c : AT X Z W e s) (a : AE X Z W e1 f) (b : AE X Z W e2 g) : AE X Z W (.IfExp e e1 e2 pos) (vIf s f g) := by
  obtain ⟨tc, pc, sc⟩ := c.ex
  obtain ⟨ta, pa, sa⟩ := a.ex
  obtain ⟨tb, pb, sb⟩ := b.ex
  refine ⟨_, pe_ifExp pc pa pb, fun B σ H G a P Q E rl w h k => sc B σ H G a _ _ E rl w h fun b a' H' G' h1 e1 r1 => ?_⟩
  cases b with
  | true =>
    rw [if_pos rfl] at h1 ⊢
    exact sa B σ H' G' a' _ _ E r1 w h1 fun b a2 v H2 G2 h2 e2 r2 x2 => k _ _ _ _ _ h2 (e1.trans e2) r2 x2
  | false =>
    rw [if_neg Bool.false_ne_true] at h1 ⊢
    exact sb B σ H' G' a' _ _ E r1 w h1 fun b a2 v H2 G2 h2 e2 r2 x2 => k _ _ _ _ _ h2 (e1.trans e2) r2 x2
/-! ### arguments, tuples, lists -/
theorem SlotR.keepR {B : Base} {H H' G G' : Hp} {x : AV} {v : V} (s : SlotR B H G x v) (n : x.owned = false) (e : Ex G G') : SlotR B H' G' x v := by
  cases x with
  | im d => exact R.mono e s
  | stk => exact s
  | rng => exact s
  | kept ws ks => exact kept_mono s e rfl rfl
  | _ => cases n
def fNil : FA := fun _ a P => P [] a
def fCons (f : FE) (g : FA) : FA := fun E a P => f E a fun d a' => g E a' fun xs a2 => P (.im d :: xs) a2
theorem aa_nil : AA X Z W [] fNil := ⟨_, pa_nil, fun B σ H G a P Q E rl w h k => k _ _ _ _ _ h (Ex.refl _) rl rfl⟩
theorem aa_cons {g : FA} (a : AE X Z W e f) (b : AA X Z W rest g) (hs : starEach (e :: rest) X.env = (false, eval e X.env) :: starEach rest X.env := by rfl) : AA X Z W (e :: rest) (fCons f g) := by
  obtain ⟨ta, pa, sa⟩ := a.ex
  obtain ⟨tb, pb, sb⟩ := b.ex
  refine ⟨_, pa_cons pa pb hs, fun B σ H G a P Q E rl w h k => sa B σ H G a _ _ E rl w h fun d a' v H' G' h1 e1 r1 x1 => ?_⟩
  exact sb B σ H' G' a' _ _ E r1 w h1 fun xs a2 vs H2 G2 h2 e2 r2 x2 => k _ _ _ _ _ h2 (e1.trans e2) r2 ⟨v, vs, rfl, rfl, x1.mono e2, x2⟩
/-- the stack, the state's list, as arguments -/
def fTok (i : Nat) (g : FA) : FA := fun E a P => match a.ρ[i]? with
  | some (some .stk) => g E a fun xs a2 => P (.stk :: xs) a2
  | some (some .rng) => g E a fun xs a2 => P (.rng :: xs) a2
  | _ => False
theorem aa_tok (i : Nat) {g : FA} {x : Str} (b : AA X Z W rest g) (hN : X.N[i]? = some x := by rfl) (hv : Vis X.env.scope x := by first | exact Or.inl rfl | exact Or.inr (Or.inl rfl) | exact Or.inr (Or.inr rfl)) (hd : (x == ("__debug__" : Str)) = false := by decide)
    (hcd : (x == ("__classdict__" : Str)) = false := by decide) (hs : starEach (.Name x pos :: rest) X.env = (false, eval (.Name x pos) X.env) :: starEach rest X.env := by rfl) : AA X Z W (.Name x pos :: rest) (fTok i g) := by
  obtain ⟨tb, pb, sb⟩ := b.ex
  refine ⟨_, pa_cons (pe_var hN hv hd hcd) pb hs, fun B σ H G a P Q E rl w h k => ?_⟩
  unfold fTok at h
  split at h
  · rename_i hi
    obtain ⟨v, h1, h2⟩ := rl.sl i _ hi
    exact ⟨v, h1, sb B σ H G a _ _ E rl w h fun xs a2 vs H2 G2 h3 e2 r2 x2 => k _ _ _ _ _ h3 e2 r2 ⟨v, vs, rfl, rfl, h2, x2⟩⟩
  · rename_i hi
    obtain ⟨v, h1, h2⟩ := rl.sl i _ hi
    exact ⟨v, h1, sb B σ H G a _ _ E rl w h fun xs a2 vs H2 G2 h3 e2 r2 x2 => k _ _ _ _ _ h3 e2 r2 ⟨v, vs, rfl, rfl, h2, x2⟩⟩
  · exact h.elim
/-- the data of arguments that are all data -/
def datas : List AV → Option (List D)
  | [] => some []
  | .im d :: xs => (datas xs).map (d :: ·)
  | _ => none
theorem Args.rs {B : Base} {H G : Hp} : ∀ {xs : List AV} {vs : List V} {ds : List D}, Args B H G xs vs → datas xs = some ds → Rs G ds vs
  | [], _, _, h, e => by cases h; cases e; exact rfl
  | .im d :: xs, _, _, h, e => by
    obtain ⟨v, r, rfl, _, h1, h2⟩ := h
    have e : (datas xs).map (d :: ·) = some _ := e
    cases q : datas xs with
    | none => rw [q] at e; cases e
    | some ys =>
      rw [q] at e
      cases e
      exact ⟨v, r, rfl, h1, Args.rs h2 q⟩
  | .owl _ :: _, _, _, _, e => by cases e
  | .owd _ :: _, _, _, _, e => by cases e
  | .stk :: _, _, _, _, e => by cases e
  | .rng :: _, _, _, _, e => by cases e
  | .kept _ _ :: _, _, _, _, e => by cases e
def fTup (g : FA) : FE := fun E a P => g E a fun xs a' => match datas xs with
  | some ds => ds.length ≤ sizeLine ∧ P (.tup ds) a'
  | none => False
theorem atup {g : FA} {x1} (b : AA X Z W rest g) : AE X Z W (.Tuple rest x1 pos) (fTup g) := by
  obtain ⟨tb, pb, sb⟩ := b.ex
  refine ⟨_, pe_tup pb, fun B σ H G a P Q E rl w h k => sb B σ H G a _ _ E rl w h fun xs a2 vs H2 G2 h2 e2 r2 x2 => ?_⟩
  split at h2
  · rename_i ds hd
    have hx := x2.rs hd
    refine ⟨by rw [← hx.len]; exact h2.1, fun p hp => k _ _ _ _ _ h2.2 (e2.trans (r2.ex hp)) (r2.known hp) ⟨p, vs, rfl, upd_same, hx.mono (r2.ex hp)⟩⟩
  · exact h2.elim
def nLst (g : FA) : FN := fun E a P => g E a fun xs a' => match datas xs with
  | some ds => ds.length ≤ sizeLine ∧ P (.owl ds) a'
  | none => False
theorem alst {g : FA} (b : AA X Z W rest g) : AN X Z W (.List rest pos) (nLst g) := by
  obtain ⟨tb, pb, sb⟩ := b.ex
  refine ⟨_, pe_lst pb, fun B σ H G a P Q E rl w h k => sb B σ H G a _ _ E rl w h fun xs a2 vs H2 G2 h2 e2 r2 x2 => ?_⟩
  split at h2
  · rename_i ds hd
    have hx := x2.rs hd
    refine ⟨by rw [← hx.len]; exact h2.1, fun p hp => k _ _ _ _ _ _ h2.2 e2 r2 hp hx⟩
  · exact h2.elim
/-- what is new is at once given away -/
def fNew (n : FN) : FE := fun E a P => n E a fun x a' => P x.data a'
theorem anew {n : FN} (b : AN X Z W e n) : AE X Z W e (fNew n) := by
  obtain ⟨t, p, s⟩ := b.ex
  exact ⟨_, p, fun B σ H G a P Q E rl w h k => s B σ H G a _ _ E rl w h fun x a' p o H' G' h1 e1 r1 hp hn => k _ _ _ _ _ h1 (e1.trans (r1.ex hp)) (r1.known hp) (hn.r (r1.gh.free hp))⟩
end
end Ab


namespace Ab
open PySem L2
section
variable {X : Cx} {Z : Cl} {W : WX} {e e1 e2 e3 : Expr} {f g h : FE} {pos : Pos} {fl : FL} {fk : FK} {rest : List Expr}
/-! ### lists and dicts that are read -/
def lVar (i : Nat) : FL := fun _ a P => match a.ρ[i]? with
  | some (some (.im (.lst ds))) => P ds a
  | some (some (.owl ds)) => P ds a
  | _ => False
theorem lv (i : Nat) {x : Str} (hN : X.N[i]? = some x := by rfl) (hv : Vis X.env.scope x := by first | exact Or.inl rfl | exact Or.inr (Or.inl rfl) | exact Or.inr (Or.inr rfl)) (hd : (x == ("__debug__" : Str)) = false := by decide)
    (hcd : (x == ("__classdict__" : Str)) = false := by decide) : AL X Z W (.Name x pos) (lVar i) := by
  refine ⟨_, pe_var hN hv hd hcd, fun B σ H G a P Q E r _ h k => ?_⟩
  unfold lVar at h
  split at h
  · rename_i d hi
    obtain ⟨v, h1, p, vs, rfl, h3, h4⟩ := r.sl i _ hi
    exact ⟨_, h1, k _ _ _ _ _ _ h (Ex.refl _) r (r.gh _ _ h3) h4⟩
  · rename_i d hi
    obtain ⟨v, h1, p, vs, rfl, h3, h4, h5, h6⟩ := r.sl i _ hi
    exact ⟨_, h1, k _ _ _ _ _ _ h (Ex.refl _) r h3 h6⟩
  · exact h.elim
def lOf (f : FE) : FL := fun E a P => f E a fun d a' => match d with
  | .lst ds => P ds a'
  | _ => False
theorem lof (b : AE X Z W e f) : AL X Z W e (lOf f) := by
  obtain ⟨t, p, s⟩ := b.ex
  refine ⟨_, p, fun B σ H G a P Q E r w h k => s B σ H G a _ _ E r w h fun d a' v H' G' h1 e1 r1 x1 => ?_⟩
  cases d with
  | lst ds =>
    obtain ⟨p, vs, rfl, h3, h4⟩ := x1
    exact k _ _ _ _ _ _ h1 e1 r1 (r1.gh _ _ h3) h4
  | _ => exact h1.elim
def kVar (i : Nat) : FK := fun _ a P => match a.ρ[i]? with
  | some (some (.im (.dct ds))) => P ds a
  | some (some (.owd ds)) => P ds a
  | _ => False
theorem kv (i : Nat) {x : Str} (hN : X.N[i]? = some x := by rfl) (hv : Vis X.env.scope x := by first | exact Or.inl rfl | exact Or.inr (Or.inl rfl) | exact Or.inr (Or.inr rfl)) (hd : (x == ("__debug__" : Str)) = false := by decide)
    (hcd : (x == ("__classdict__" : Str)) = false := by decide) : AD X Z W (.Name x pos) (kVar i) := by
  refine ⟨_, pe_var hN hv hd hcd, fun B σ H G a P Q E r _ h k => ?_⟩
  unfold kVar at h
  split at h
  · rename_i d hi
    obtain ⟨v, h1, p, vs, rfl, h3, h4⟩ := r.sl i _ hi
    exact ⟨_, h1, k _ _ _ _ _ _ h (Ex.refl _) r (r.gh _ _ h3) h4⟩
  · rename_i d hi
    obtain ⟨v, h1, p, vs, rfl, h3, h4, h5, h6, _⟩ := r.sl i _ hi
    exact ⟨_, h1, k _ _ _ _ _ _ h (Ex.refl _) r h3 h6⟩
  · exact h.elim
def kOf (f : FE) : FK := fun E a P => f E a fun d a' => match d with
  | .dct ds => P ds a'
  | _ => False
theorem kof (b : AE X Z W e f) : AD X Z W e (kOf f) := by
  obtain ⟨t, p, s⟩ := b.ex
  refine ⟨_, p, fun B σ H G a P Q E r w h k => s B σ H G a _ _ E r w h fun d a' v H' G' h1 e1 r1 x1 => ?_⟩
  cases d with
  | dct ds =>
    obtain ⟨p, vs, rfl, h3, h4⟩ := x1
    exact k _ _ _ _ _ _ h1 e1 r1 (r1.gh _ _ h3) h4
  | _ => exact h1.elim
/-! ### the stack's fields -/
inductive Fd where | base | words | many
def Fd.name : Fd → Str
  | .base => "base"
  | .words => "words"
  | .many => "many"
def Fd.get (S : Stk) : Fd → D
  | .base => S.base
  | .words => S.words
  | .many => .int S.many
/-- the facts of the class -/
structure StkTxt (K : PySem.W.Frag) (Z : Cl) : Prop where
  cl : Cls K Z.stack
  nb : NoAttr K Z.stack "base"
  nw : NoAttr K Z.stack "words"
  np : NoAttr K Z.stack "patches"
  nm : NoAttr K Z.stack "many"
theorem StkTxt.no {K : PySem.W.Frag} {Z : Cl} (T : StkTxt K Z) : ∀ x : Fd, NoAttr K Z.stack x.name
  | .base => T.nb
  | .words => T.nw
  | .many => T.nm
theorem flds_at {vb vw vp : V} {m : Int} : (flds vb vw vp m).lookup ("base" : Str) = some vb ∧ (flds vb vw vp m).lookup ("words" : Str) = some vw ∧ (flds vb vw vp m).lookup ("patches" : Str) = some vp ∧ (flds vb vw vp m).lookup ("many" : Str) = some (.int m) :=
  ⟨rfl, rfl, rfl, rfl⟩
def fAt (i : Nat) (x : Fd) : FE := fun _ a P => match a.ρ[i]?, a.S with
  | some (some .stk), some S => P (x.get S) a
  | _, _ => False
theorem aat (i : Nat) (x : Fd) {n fn : Str} {p2 : Pos} (T : StkTxt X.K Z) (hx : fn = x.name := by rfl) (hN : X.N[i]? = some n := by rfl) (hv : Vis X.env.scope n := by first | exact Or.inl rfl | exact Or.inr (Or.inl rfl) | exact Or.inr (Or.inr rfl)) (hd : (n == ("__debug__" : Str)) = false := by decide)
    (hcd : (n == ("__classdict__" : Str)) = false := by decide) (hb : attributeBase (.Name n p2) fn X.env (eval (.Name n p2) X.env) = eval (.Name n p2) X.env := by rfl) : AE X Z W (.Attribute (.Name n p2) fn pos) (fAt i x) := by
  refine ⟨_, pe_fld (pe_var hN hv hd hcd) hb, fun B σ H G a P Q E r _ h k => ?_⟩
  subst hx
  unfold fAt at h
  split at h
  · rename_i S hi hS
    obtain ⟨v, h1, q, h2, rfl⟩ := r.sl i _ hi
    have st := r.st
    rw [hS] at st
    obtain ⟨q', pd, s1, s2, s3⟩ := st
    rw [h2] at s1; cases s1
    obtain ⟨dx, vb, vw, ws, t1, t2, t3, t4, t5, t6, t7⟩ := s2
    have fin : ∀ v, (flds vb vw (.ref pd) S.many).lookup x.name = some v → R G (x.get S) v → tFld X.K (L2.tVar i) x.name σ H Q := fun v hv hr =>
      ⟨_, h1, q, Z.stack, dx, _, v, rfl, t1, T.cl, T.no x, hv, k _ _ _ _ _ h (Ex.refl _) r hr⟩
    cases x with
    | base => exact fin _ flds_at.1 t5
    | words => exact fin _ flds_at.2.1 t6
    | many => exact fin _ flds_at.2.2.2 rfl
  · exact h.elim
def kAt (i : Nat) : FK := fun _ a P => match a.ρ[i]?, a.S with
  | some (some .stk), some S => P S.patches a
  | _, _ => False
theorem kat (i : Nat) {n : Str} {p2 : Pos} (T : StkTxt X.K Z) (hN : X.N[i]? = some n := by rfl) (hv : Vis X.env.scope n := by first | exact Or.inl rfl | exact Or.inr (Or.inl rfl) | exact Or.inr (Or.inr rfl)) (hd : (n == ("__debug__" : Str)) = false := by decide)
    (hcd : (n == ("__classdict__" : Str)) = false := by decide) (hb : attributeBase (.Name n p2) "patches" X.env (eval (.Name n p2) X.env) = eval (.Name n p2) X.env := by rfl) : AD X Z W (.Attribute (.Name n p2) "patches" pos) (kAt i) := by
  refine ⟨_, pe_fld (pe_var hN hv hd hcd) hb, fun B σ H G a P Q E r _ h k => ?_⟩
  unfold kAt at h
  split at h
  · rename_i S hi hS
    obtain ⟨v, h1, q, h2, rfl⟩ := r.sl i _ hi
    have st := r.st
    rw [hS] at st
    obtain ⟨q', pd, s1, s2, s3⟩ := st
    rw [h2] at s1; cases s1
    obtain ⟨dx, vb, vw, ws, t1, t2, t3, t4, t5, t6, t7⟩ := s2
    exact ⟨_, h1, q, Z.stack, dx, _, _, rfl, t1, T.cl, T.np, flds_at.2.2.1, k _ _ _ _ _ _ h (Ex.refl _) r t2 t7⟩
  · exact h.elim
/-! ### subscripts -/
theorem atI_R {G : Hp} {ds : List D} {vs : List V} {i : Int} {d : D} (h : Rs G ds vs) (e : atI ds i = some d) : ∃ v, atI vs i = some v ∧ R G d v := by
  unfold atI at e ⊢
  rw [← h.len]
  cases q : ixN ds.length i with
  | none => rw [q] at e; cases e
  | some j =>
    rw [q] at e
    exact h.get e
def fIx (f g : FE) : FE := fun E a P => f E a fun x a1 => g E a1 fun y a2 => match x, y with
  | .tup ds, .int i => ∃ d, atI ds i = some d ∧ P d a2
  | .lst ds, .int i => ∃ d, atI ds i = some d ∧ P d a2
  | .str s, .int i => s.length ≤ sizeLine ∧ ∃ c, atI s.cps.toList i = some c ∧ P (.str ⟨#[c]⟩) a2
  | _, _ => False
theorem aix (a : AE X Z W e1 f) (b : AE X Z W e2 g) (hs : PlainIx e2 := by intro _ _; rfl) : AE X Z W (.Subscript e1 e2 pos) (fIx f g) := by
  obtain ⟨ta, pa, sa⟩ := a.ex
  obtain ⟨tb, pb, sb⟩ := b.ex
  refine ⟨_, pe_ix ix_seq pa pb hs, fun B σ H G a P Q E rl w h k => sa B σ H G a _ _ E rl w h fun x a1 v H1 G1 h1 e1 r1 x1 => ?_⟩
  refine sb B σ H1 G1 a1 _ _ E r1 w h1 fun y a2 u H2 G2 h2 e2 r2 y2 => ?_
  have x2 := x1.mono e2
  cases x with
  | tup ds => cases y with
    | int i =>
      obtain ⟨p, vs, rfl, q1, q2⟩ := x2
      obtain ⟨d, hd, h2⟩ := h2
      obtain ⟨z, hz, rz⟩ := atI_R q2 hd
      exact .inr (.inl ⟨p, vs, i, z, rfl, y2, SqT.of (r2.gh _ _ q1), hz, k _ _ _ _ _ h2 (e1.trans e2) r2 rz⟩)
    | _ => exact h2.elim
  | lst ds => cases y with
    | int i =>
      obtain ⟨p, vs, rfl, q1, q2⟩ := x2
      obtain ⟨d, hd, h2⟩ := h2
      obtain ⟨z, hz, rz⟩ := atI_R q2 hd
      exact .inl ⟨p, vs, i, z, rfl, y2, SqL.of (r2.gh _ _ q1), hz, k _ _ _ _ _ h2 (e1.trans e2) r2 rz⟩
    | _ => exact h2.elim
  | str s => cases y with
    | int i =>
      obtain ⟨h3, c, hc, h2⟩ := h2
      exact .inr (.inr ⟨s, i, c, x2, y2, h3, hc, k _ _ _ _ _ h2 (e1.trans e2) r2 rfl⟩)
    | _ => exact h2.elim
  | _ => exact h2.elim
/-- what has items: len, list, tuple .. -/
def fLen (f : FE) : FE := fun E a P => f E a fun x a1 => match x with
  | .tup ds => P (.int ds.length) a1
  | .lst ds => P (.int ds.length) a1
  | .str s => s.length ≤ sizeLine ∧ P (.int s.length) a1
  | _ => False
theorem blt {x : Str} {id : String} {r : List V → Hp → VK → Prop} {t : TA} {p : Pos} (hc : CallR X (.builtin id) r) (hm : X.mg x = none) (ha : PA X (e :: rest) t) (hg : Gl X x) (hv : bootBuiltins x = some (.builtin id)) (hn : x ≠ "__name__" := by decide) (hdb : (x == ("__debug__" : Str)) = false := by decide)
    (he : starEach (e :: rest) X.env = (false, eval e X.env) :: starEach rest X.env := by rfl) (hpl : (backTo pos (starEach rest X.env)).any (·.1) = false := by rfl) : PE X (.Call (.Name x p) (e :: rest) [] pos) (tCB r t) := pe_callB hc hg hm hv ha hn hdb he hpl
variable {p : Pos}
theorem alen (a : AE X Z W e f) (hm : X.mg "len" = none) (hg : Gl X "len") (he : starEach [e] X.env = (false, eval e X.env) :: starEach [] X.env := by rfl) (hpl : (backTo pos (starEach [] X.env)).any (·.1) = false := by rfl) : AE X Z W (.Call (.Name "len" p) [e] [] pos) (fLen f) := by
  obtain ⟨ta, pa, sa⟩ := a.ex
  refine ⟨_, pe_callB call_len hg hm boot_len (pa_cons pa pa_nil he) (by decide) (by decide) he hpl, fun B σ H G a P Q E rl w h k => sa B σ H G a _ _ E rl w h fun x a1 v H1 G1 h1 e1 r1 x1 => ?_⟩
  cases x with
  | tup ds =>
    obtain ⟨p, vs, rfl, q1, q2⟩ := x1
    exact ⟨_, ds.length, rfl, .inr ⟨vs, SqT.of (r1.gh _ _ q1), q2.len⟩, k _ _ _ _ _ h1 e1 r1 rfl⟩
  | lst ds =>
    obtain ⟨p, vs, rfl, q1, q2⟩ := x1
    exact ⟨_, ds.length, rfl, .inl ⟨vs, SqL.of (r1.gh _ _ q1), q2.len⟩, k _ _ _ _ _ h1 e1 r1 rfl⟩
  | str s =>
    cases x1
    exact ⟨_, s.length, rfl, ⟨h1.1, rfl⟩, k _ _ _ _ _ h1.2 e1 r1 rfl⟩
  | _ => exact h1.elim
def fLenL (f : FL) : FE := fun E a P => f E a fun ds a1 => P (.int ds.length) a1
theorem alenL (a : AL X Z W e fl) (hm : X.mg "len" = none) (hg : Gl X "len") (he : starEach [e] X.env = (false, eval e X.env) :: starEach [] X.env := by rfl) (hpl : (backTo pos (starEach [] X.env)).any (·.1) = false := by rfl) : AE X Z W (.Call (.Name "len" p) [e] [] pos) (fLenL fl) := by
  obtain ⟨ta, pa, sa⟩ := a.ex
  exact ⟨_, pe_callB call_len hg hm boot_len (pa_cons pa pa_nil he) (by decide) (by decide) he hpl, fun B σ H G a P Q E rl w h k => sa B σ H G a _ _ E rl w h fun ds a1 q vs H1 G1 h1 e1 r1 x1 x2 =>
    ⟨_, ds.length, rfl, .inl ⟨vs, SqL.of x1, x2.len⟩, k _ _ _ _ _ h1 e1 r1 rfl⟩⟩
/-- tuple(x) -/
def fTpl (f : FE) : FE := fun E a P => f E a fun x a1 => match x with
  | .tup ds => P (.tup ds) a1
  | .lst ds => P (.tup ds) a1
  | _ => False
theorem atpl (a : AE X Z W e f) (hm : X.mg "tuple" = none) (hg : Gl X "tuple") (he : starEach [e] X.env = (false, eval e X.env) :: starEach [] X.env := by rfl) (hpl : (backTo pos (starEach [] X.env)).any (·.1) = false := by rfl) : AE X Z W (.Call (.Name "tuple" p) [e] [] pos) (fTpl f) := by
  obtain ⟨ta, pa, sa⟩ := a.ex
  refine ⟨_, pe_callTy call_tuple_of hg hm (by decide +kernel) (pa_cons pa pa_nil he) (by decide) (by decide) he hpl, fun B σ H G a P Q E rl w h k => sa B σ H G a _ _ E rl w h fun x a1 v H1 G1 h1 e1 r1 x1 => ?_⟩
  cases x with
  | tup ds =>
    obtain ⟨p, vs, rfl, q1, q2⟩ := x1
    exact ⟨p, vs, rfl, .inr ⟨SqT.of (r1.gh _ _ q1), k _ _ _ _ _ h1 e1 r1 ⟨p, vs, rfl, q1, q2⟩⟩⟩
  | lst ds =>
    obtain ⟨p, vs, rfl, q1, q2⟩ := x1
    exact ⟨p, vs, rfl, .inl ⟨SqL.of (r1.gh _ _ q1), fun l hl => k _ _ _ _ _ h1 (e1.trans (r1.ex hl)) (r1.known hl) ⟨l, vs, rfl, upd_same, q2.mono (r1.ex hl)⟩⟩⟩
  | _ => exact h1.elim
def fTplL (f : FL) : FE := fun E a P => f E a fun ds a1 => P (.tup ds) a1
theorem atplL (a : AL X Z W e fl) (hm : X.mg "tuple" = none) (hg : Gl X "tuple") (he : starEach [e] X.env = (false, eval e X.env) :: starEach [] X.env := by rfl) (hpl : (backTo pos (starEach [] X.env)).any (·.1) = false := by rfl) : AE X Z W (.Call (.Name "tuple" p) [e] [] pos) (fTplL fl) := by
  obtain ⟨ta, pa, sa⟩ := a.ex
  exact ⟨_, pe_callTy call_tuple_of hg hm (by decide +kernel) (pa_cons pa pa_nil he) (by decide) (by decide) he hpl, fun B σ H G a P Q E rl w h k => sa B σ H G a _ _ E rl w h fun ds a1 q vs H1 G1 h1 e1 r1 x1 x2 =>
    ⟨q, vs, rfl, .inl ⟨SqL.of x1, fun l hl => k _ _ _ _ _ h1 (e1.trans (r1.ex hl)) (r1.known hl) ⟨l, vs, rfl, upd_same, x2.mono (r1.ex hl)⟩⟩⟩⟩
/-- list(x): a new list -/
def nList (f : FE) : FN := fun E a P => f E a fun x a1 => match x with
  | .tup ds => P (.owl ds) a1
  | .lst ds => P (.owl ds) a1
  | _ => False
theorem alist (a : AE X Z W e f) (hm : X.mg "list" = none) (hg : Gl X "list") (he : starEach [e] X.env = (false, eval e X.env) :: starEach [] X.env := by rfl) (hpl : (backTo pos (starEach [] X.env)).any (·.1) = false := by rfl) : AN X Z W (.Call (.Name "list" p) [e] [] pos) (nList f) := by
  obtain ⟨ta, pa, sa⟩ := a.ex
  refine ⟨_, pe_callTy call_list_of hg hm (by decide +kernel) (pa_cons pa pa_nil he) (by decide) (by decide) he hpl, fun B σ H G a P Q E rl w h k => sa B σ H G a _ _ E rl w h fun x a1 v H1 G1 h1 e1 r1 x1 => ?_⟩
  cases x with
  | tup ds =>
    obtain ⟨p, vs, rfl, q1, q2⟩ := x1
    exact ⟨p, vs, rfl, .inr (SqT.of (r1.gh _ _ q1)), fun l hl => k _ _ _ _ _ _ h1 e1 r1 hl q2⟩
  | lst ds =>
    obtain ⟨p, vs, rfl, q1, q2⟩ := x1
    exact ⟨p, vs, rfl, .inl (SqL.of (r1.gh _ _ q1)), fun l hl => k _ _ _ _ _ _ h1 e1 r1 hl q2⟩
  | _ => exact h1.elim
/-- dict(d): a new dict -/
def nDict (f : FK) : FN := fun E a P => f E a fun ks a1 => P (.owd ks) a1
theorem adict (a : AD X Z W e fk) (hm : X.mg "dict" = none) (hg : Gl X "dict") (he : starEach [e] X.env = (false, eval e X.env) :: starEach [] X.env := by rfl) (hpl : (backTo pos (starEach [] X.env)).any (·.1) = false := by rfl) : AN X Z W (.Call (.Name "dict" p) [e] [] pos) (nDict fk) := by
  obtain ⟨ta, pa, sa⟩ := a.ex
  exact ⟨_, pe_callTy call_dictD hg hm (by decide +kernel) (pa_cons pa pa_nil he) (by decide) (by decide) he hpl, fun B σ H G a P Q E rl w h k => sa B σ H G a _ _ E rl w h fun ks a1 q ws H1 G1 h1 e1 r1 x1 x2 =>
    ⟨q, ws, rfl, .inl x1, fun l hl => k _ _ _ _ _ _ h1 e1 r1 hl x2⟩⟩
/-- k in d -/
def fKin (neg : Bool) (g : FE) (f : FK) : FE := fun E a P => g E a fun y a1 => match y with
  | .str s => f E a1 fun ks a2 => P (.bl (if neg then !(lookD ks s).isSome else (lookD ks s).isSome)) a2
  | _ => False
theorem akin (hu : X.A.units + 1 < cLine) (b : AE X Z W e2 g) (a : AD X Z W e1 fk) (hm : behindInMarks .In e1 = false := by rfl) : AT X Z W (.Compare e2 [.In] [e1] pos) (tB (fKin false g fk)) := by
  obtain ⟨ta, pa, sa⟩ := a.ex
  obtain ⟨tb, pb, sb⟩ := b.ex
  refine ⟨_, pt_cmp (pc_din hu pb pa) hm, fun B σ H G a P Q E rl w h k => sb B σ H G a _ _ E rl w h fun y a1 u H1 G1 h1 e1 r1 y1 => ?_⟩
  cases y with
  | str s =>
    cases y1
    exact sa B σ H1 G1 a1 _ _ E r1 w h1 fun ks a2 q ws H2 G2 h2 e2 r2 x1 x2 => ⟨q, _, rfl, DGet.k (k := Sum.inr s) x1, _, rfl, k _ _ _ _ (by rw [x2.is]; exact h2) (e1.trans e2) r2⟩
  | _ => exact h1.elim
theorem aknin (hu : X.A.units + 1 < cLine) (b : AE X Z W e2 g) (a : AD X Z W e1 fk) (hm : behindInMarks .NotIn e1 = false := by rfl) : AT X Z W (.Compare e2 [.NotIn] [e1] pos) (tB (fKin true g fk)) := by
  obtain ⟨ta, pa, sa⟩ := a.ex
  obtain ⟨tb, pb, sb⟩ := b.ex
  refine ⟨_, pt_cmp (pc_dnotin hu pb pa) hm, fun B σ H G a P Q E rl w h k => sb B σ H G a _ _ E rl w h fun y a1 u H1 G1 h1 e1 r1 y1 => ?_⟩
  cases y with
  | str s =>
    cases y1
    exact sa B σ H1 G1 a1 _ _ E r1 w h1 fun ks a2 q ws H2 G2 h2 e2 r2 x1 x2 => ⟨q, _, rfl, DGet.k (k := Sum.inr s) x1, _, rfl, k _ _ _ _ (by rw [x2.is]; exact h2) (e1.trans e2) r2⟩
  | _ => exact h1.elim
/-! ### what leaves the heap as it is -/
abbrev FQ := A → (D → Prop) → Prop
structure AQ (X : Cx) (Z : Cl) (e : Expr) (f : FQ) : Prop where
  ex : ∃ t, PE X e t ∧ ∀ B σ H G a P Q, Rel Z B σ H G a → f a P → (∀ d v, P d → R G d v → Q v H) → t σ H Q
variable {u w : FQ}
def qVar (i : Nat) : FQ := fun a P => match a.ρ[i]? with
  | some (some (.im d)) => P d
  | _ => False
theorem qv (i : Nat) {x : Str} (hN : X.N[i]? = some x := by rfl) (hv : Vis X.env.scope x := by first | exact Or.inl rfl | exact Or.inr (Or.inl rfl) | exact Or.inr (Or.inr rfl)) (hd : (x == ("__debug__" : Str)) = false := by decide)
    (hcd : (x == ("__classdict__" : Str)) = false := by decide) : AQ X Z (.Name x pos) (qVar i) := by
  refine ⟨_, pe_var hN hv hd hcd, fun B σ H G a P Q r h k => ?_⟩
  unfold qVar at h
  split at h
  · rename_i d hi
    obtain ⟨v, h1, h2⟩ := r.sl i _ hi
    exact ⟨v, h1, k _ _ h h2⟩
  · exact h.elim
def qC (d : D) : FQ := fun _ P => P d
theorem qi {i j} : AQ X Z (.Constant (.int i) j pos) (qC (.int i)) := ⟨_, pe_int, fun B σ H G a P Q r h k => k _ _ h rfl⟩
theorem qs {i j} : AQ X Z (.Constant (.str i) j pos) (qC (.str i)) := ⟨_, pe_str, fun B σ H G a P Q r h k => k _ _ h rfl⟩
def qInt (g : Int → Int → Int) (u w : FQ) : FQ := fun a P => u a fun x => w a fun y => match x, y with
  | .int i, .int j => P (.int (g i j))
  | _, _ => False
theorem qadd (a : AQ X Z e1 u) (b : AQ X Z e2 w) : AQ X Z (.BinOp e1 .Add e2 pos) (qInt (· + ·) u w) := by
  obtain ⟨ta, pa, sa⟩ := a.ex
  obtain ⟨tb, pb, sb⟩ := b.ex
  refine ⟨_, pe_op op_add pa pb, fun B σ H G a P Q r h k => sa B σ H G a _ _ r h fun x v h1 x1 => sb B σ H G a _ _ r h1 fun y z h2 y1 => ?_⟩
  cases x with
  | int i => cases y with
    | int j => exact ⟨i, j, x1, y1, k _ _ h2 rfl⟩
    | _ => exact h2.elim
  | _ => exact h2.elim
theorem qsub (a : AQ X Z e1 u) (b : AQ X Z e2 w) : AQ X Z (.BinOp e1 .Sub e2 pos) (qInt (· - ·) u w) := by
  obtain ⟨ta, pa, sa⟩ := a.ex
  obtain ⟨tb, pb, sb⟩ := b.ex
  refine ⟨_, pe_op op_sub pa pb, fun B σ H G a P Q r h k => sa B σ H G a _ _ r h fun x v h1 x1 => sb B σ H G a _ _ r h1 fun y z h2 y1 => ?_⟩
  cases x with
  | int i => cases y with
    | int j => exact ⟨i, j, x1, y1, k _ _ h2 rfl⟩
    | _ => exact h2.elim
  | _ => exact h2.elim
def qNeg (u : FQ) : FQ := fun a P => u a fun x => match x with
  | .int i => P (.int (-i))
  | _ => False
theorem qneg (a : AQ X Z e1 u) : AQ X Z (.UnaryOp .USub e1 pos) (qNeg u) := by
  obtain ⟨ta, pa, sa⟩ := a.ex
  refine ⟨_, pe_un un_neg pa, fun B σ H G a P Q r h k => sa B σ H G a _ _ r h fun x v h1 x1 => ?_⟩
  cases x with
  | int i => exact ⟨i, x1, k _ _ h1 rfl⟩
  | _ => exact h1.elim
def qIx (u w : FQ) : FQ := fun a P => u a fun x => w a fun y => match x, y with
  | .tup ds, .int i => ∃ d, atI ds i = some d ∧ P d
  | .lst ds, .int i => ∃ d, atI ds i = some d ∧ P d
  | _, _ => False
theorem qix (a : AQ X Z e1 u) (b : AQ X Z e2 w) (hs : PlainIx e2 := by intro _ _; rfl) : AQ X Z (.Subscript e1 e2 pos) (qIx u w) := by
  obtain ⟨ta, pa, sa⟩ := a.ex
  obtain ⟨tb, pb, sb⟩ := b.ex
  refine ⟨_, pe_ix ix_seq pa pb hs, fun B σ H G a P Q r h k => sa B σ H G a _ _ r h fun x v h1 x1 => sb B σ H G a _ _ r h1 fun y z h2 y1 => ?_⟩
  cases x with
  | tup ds => cases y with
    | int i =>
      obtain ⟨p, vs, rfl, q1, q2⟩ := x1
      obtain ⟨d, hd, h2⟩ := h2
      obtain ⟨z, hz, rz⟩ := atI_R q2 hd
      exact .inr (.inl ⟨p, vs, i, z, rfl, y1, SqT.of (r.gh _ _ q1), hz, k _ _ h2 rz⟩)
    | _ => exact h2.elim
  | lst ds => cases y with
    | int i =>
      obtain ⟨p, vs, rfl, q1, q2⟩ := x1
      obtain ⟨d, hd, h2⟩ := h2
      obtain ⟨z, hz, rz⟩ := atI_R q2 hd
      exact .inl ⟨p, vs, i, z, rfl, y1, SqL.of (r.gh _ _ q1), hz, k _ _ h2 rz⟩
    | _ => exact h2.elim
  | _ => exact h2.elim
def qAt (i : Nat) (x : Fd) : FQ := fun a P => match a.ρ[i]?, a.S with
  | some (some .stk), some S => P (x.get S)
  | _, _ => False
theorem qat (i : Nat) (x : Fd) {n fn : Str} {p2 : Pos} (T : StkTxt X.K Z) (hx : fn = x.name := by rfl) (hN : X.N[i]? = some n := by rfl) (hv : Vis X.env.scope n := by first | exact Or.inl rfl | exact Or.inr (Or.inl rfl) | exact Or.inr (Or.inr rfl)) (hd : (n == ("__debug__" : Str)) = false := by decide)
    (hcd : (n == ("__classdict__" : Str)) = false := by decide) (hb : attributeBase (.Name n p2) fn X.env (eval (.Name n p2) X.env) = eval (.Name n p2) X.env := by rfl) : AQ X Z (.Attribute (.Name n p2) fn pos) (qAt i x) := by
  refine ⟨_, pe_fld (pe_var hN hv hd hcd) hb, fun B σ H G a P Q r h k => ?_⟩
  subst hx
  unfold qAt at h
  split at h
  · rename_i S hi hS
    obtain ⟨v, h1, q, h2, rfl⟩ := r.sl i _ hi
    have st := r.st
    rw [hS] at st
    obtain ⟨q', pd, s1, s2, s3⟩ := st
    rw [h2] at s1; cases s1
    obtain ⟨dx, vb, vw, ws, t1, t2, t3, t4, t5, t6, t7⟩ := s2
    have fin : ∀ v, (flds vb vw (.ref pd) S.many).lookup x.name = some v → R G (x.get S) v → tFld X.K (L2.tVar i) x.name σ H Q := fun v hv hr =>
      ⟨_, h1, q, Z.stack, dx, _, v, rfl, t1, T.cl, T.no x, hv, k _ _ h hr⟩
    cases x with
    | base => exact fin _ flds_at.1 t5
    | words => exact fin _ flds_at.2.1 t6
    | many => exact fin _ flds_at.2.2.2 rfl
  · exact h.elim
def fQ (u : FQ) : FE := fun _ a P => u a fun d => P d a
theorem aq (a : AQ X Z e u) : AE X Z W e (fQ u) := by
  obtain ⟨ta, pa, sa⟩ := a.ex
  exact ⟨_, pa, fun B σ H G a P Q E r w h k => sa B σ H G a _ _ r h fun d v h1 h2 => k _ _ _ _ _ h1 (Ex.refl _) r h2⟩
/-- xs[i], xs one's own -/
def fIxL (fl : FL) (u : FQ) : FE := fun E a P => fl E a fun ds a1 => u a1 fun y => match y with
  | .int i => ∃ d, atI ds i = some d ∧ P d a1
  | _ => False
theorem aixl (a : AL X Z W e1 fl) (b : AQ X Z e2 u) (hs : PlainIx e2 := by intro _ _; rfl) : AE X Z W (.Subscript e1 e2 pos) (fIxL fl u) := by
  obtain ⟨ta, pa, sa⟩ := a.ex
  obtain ⟨tb, pb, sb⟩ := b.ex
  refine ⟨_, pe_ix ix_list pa pb hs, fun B σ H G a P Q E r w h k => sa B σ H G a _ _ E r w h fun ds a1 p vs H1 G1 h1 e1 r1 x1 x2 => sb B σ H1 G1 a1 _ _ r1 h1 fun y z h2 y1 => ?_⟩
  cases y with
  | int i =>
    obtain ⟨d, hd, h2⟩ := h2
    obtain ⟨z, hz, rz⟩ := atI_R x2 hd
    exact ⟨p, vs, i, z, rfl, y1, SqL.of x1, hz, k _ _ _ _ _ h2 e1 r1 rz⟩
  | _ => exact h2.elim
/-- d[k], d a dict with texts for keys -/
def fGet (f : FK) (u : FQ) : FE := fun E a P => f E a fun ks a1 => u a1 fun y => match y with
  | .str s => ∃ d, lookD ks s = some d ∧ P d a1
  | _ => False
theorem aget (hu : X.A.units + 1 < cLine) (a : AD X Z W e1 fk) (b : AQ X Z e2 u) (hs : NoSl e2 := by intro _ _; rfl) : AE X Z W (.Subscript e1 e2 pos) (fGet fk u) := by
  obtain ⟨ta, pa, sa⟩ := a.ex
  obtain ⟨tb, pb, sb⟩ := b.ex
  refine ⟨_, pe_dget hu pa pb hs, fun B σ H G a P Q E r w h k => sa B σ H G a _ _ E r w h fun ks a1 p ws H1 G1 h1 e1 r1 x1 x2 => sb B σ H1 G1 a1 _ _ r1 h1 fun y z h2 y1 => ?_⟩
  cases y with
  | str s =>
    cases y1
    obtain ⟨d, hd, h2⟩ := h2
    obtain ⟨z, hz, rz⟩ := x2.some hd
    exact ⟨p, z, rfl, by rw [← hz]; exact DGet.k (k := Sum.inr s) x1, k _ _ _ _ _ h2 e1 r1 rz⟩
  | _ => exact h2.elim
/-! ### slices -/
def cutD (ds : List D) (lo hi : Option Int) : List D := (ds.drop (HT.sIx ds.length 0 lo)).take (HT.sIx ds.length ds.length hi - HT.sIx ds.length 0 lo)
theorem Rs.cut {G : Hp} {ds : List D} {vs : List V} (h : Rs G ds vs) (lo hi : Option Int) : Rs G (cutD ds lo hi) (cutV vs lo hi) := by
  unfold cutD cutV
  rw [h.len]
  exact (h.drop _).take _
abbrev FO := XA → A → (Option Int → A → Prop) → Prop
structure AO (X : Cx) (Z : Cl) (W : WX) (e : Option Expr) (f : FO) : Prop where
  ex : ∃ t, PO X e t ∧ ∀ B σ H G a P Q E, Rel Z B σ H G a → WOk Z B W E → f E a P → (∀ o a' H' G', P o a' → Ex G G' → Rel Z B σ H' G' a' → Q o H') → t σ H Q
def oNo : FO := fun _ a P => P none a
def oSo (f : FE) : FO := fun E a P => f E a fun d a' => match d with
  | .int i => P (some i) a'
  | _ => False
theorem ono : AO X Z W none oNo := ⟨_, po_none, fun B σ H G a P Q E r w h k => k _ _ _ _ h (Ex.refl _) r⟩
theorem oso (a : AE X Z W e f) : AO X Z W (some e) (oSo f) := by
  obtain ⟨ta, pa, sa⟩ := a.ex
  refine ⟨_, po_some pa, fun B σ H G a P Q E r w h k => sa B σ H G a _ _ E r w h fun d a1 v H1 G1 h1 e1 r1 x1 => ?_⟩
  cases d with
  | int i => exact ⟨i, x1, k _ _ _ _ h1 e1 r1⟩
  | _ => exact h1.elim
def fSl (f : FE) (o o' : FO) : FE := fun E a P => f E a fun x a1 => o E a1 fun lo a2 => o' E a2 fun hi a3 => match x with
  | .tup ds => P (.tup (cutD ds lo hi)) a3
  | .lst ds => P (.lst (cutD ds lo hi)) a3
  | _ => False
theorem whole_cut {ds : List D} {lo hi : Option Int} (h : HT.sIx ds.length 0 lo = 0 ∧ HT.sIx ds.length ds.length hi = ds.length) : cutD ds lo hi = ds := by
  unfold cutD
  rw [h.1, h.2, List.drop_zero, Nat.sub_zero, List.take_length]
theorem asl {lo hi : Option Expr} {o o' : FO} {p2 : Pos} (a : AE X Z W e f) (b : AO X Z W lo o) (c : AO X Z W hi o') : AE X Z W (.Subscript e (.Slice lo hi none p2) pos) (fSl f o o') := by
  obtain ⟨ta, pa, sa⟩ := a.ex
  obtain ⟨tb, pb, sb⟩ := b.ex
  obtain ⟨tc, pc, sc⟩ := c.ex
  refine ⟨_, pe_slice (sl_list.or sl_tupA) pa pb pc, fun B σ H G a P Q E r w h k => sa B σ H G a _ _ E r w h fun x a1 v H1 G1 h1 e1 r1 x1 => sb B σ H1 G1 a1 _ _ E r1 w h1 fun lo a2 H2 G2 h2 e2 r2 =>
    sc B σ H2 G2 a2 _ _ E r2 w h2 fun hi a3 H3 G3 h3 e3 r3 => ?_⟩
  have x3 := x1.mono (e2.trans e3)
  cases x with
  | tup ds =>
    obtain ⟨p, vs, rfl, q1, q2⟩ := x3
    refine .inr ⟨p, vs, rfl, SqT.of (r3.gh _ _ q1), fun z => ?_, fun _ l hl => ?_⟩
    · rw [← q2.len] at z
      have h3 : P (.tup (cutD ds lo hi)) a3 := h3
      rw [whole_cut z] at h3
      exact k _ _ _ _ _ h3 ((e1.trans e2).trans e3) r3 ⟨p, vs, rfl, q1, q2⟩
    · exact k _ _ _ _ _ h3 (((e1.trans e2).trans e3).trans (r3.ex hl)) (r3.known hl) ⟨l, _, rfl, upd_same, (q2.cut lo hi).mono (r3.ex hl)⟩
  | lst ds =>
    obtain ⟨p, vs, rfl, q1, q2⟩ := x3
    exact .inl ⟨p, vs, rfl, SqL.of (r3.gh _ _ q1), fun l hl => k _ _ _ _ _ h3 (((e1.trans e2).trans e3).trans (r3.ex hl)) (r3.known hl) ⟨l, _, rfl, upd_same, (q2.cut lo hi).mono (r3.ex hl)⟩⟩
  | _ => exact h3.elim
end
end Ab


namespace Ab
open PySem L2
/-! ### calls -/
section
variable {Z : Cl} {B : Base} {σ : St} {H H' G G' : Hp} {a : A} {S S' : Option Stk}
theorem Rel.pd (r : Rel Z B σ H G a) : ∃ pd, ∀ q, B.q = some q → PdOf H q pd := by
  have st := r.st
  cases hS : a.S with
  | none =>
    rw [hS] at st
    have st : B.q = none := st
    exact ⟨0, fun q hq => by rw [st] at hq; cases hq⟩
  | some S =>
    rw [hS] at st
    obtain ⟨q, pd, s1, s2, s3⟩ := st
    refine ⟨pd, fun q' hq => ?_⟩
    rw [s1] at hq
    cases hq
    exact s2.pd
/-- what a def that is called begins with -/
theorem Rel.enter {pd : Addr} (r : Rel Z B σ H G a) (hp : ∀ q, B.q = some q → PdOf H q pd) : RelS Z ⟨H, G, B.q, pd, B.r, G⟩ H G a.S := by
  refine ⟨r.gh, Ex.refl _, fun x hx => .inl hx, fun x hx => hx, fun x o hx _ => hx, ?_, fun x hx => ⟨(r.rn x hx).1, r.dom x (r.rn x hx).2⟩, r.qh, fun t ht => ⟨(r.tb t ht).1, (r.tb t ht).2.1, r.dom t (r.tb t ht).2.2⟩⟩
  have st := r.st
  cases hS : a.S with
  | none => rw [hS] at st; exact st
  | some S =>
    rw [hS] at st
    obtain ⟨q, pd', s1, s2, s3⟩ := st
    exact ⟨q, pd', s1, s2, .inl ((hp q s1).uni s2.pd).symm⟩
/-- and what is so behind it -/
theorem Rel.after {pd : Addr} (r : Rel Z B σ H G a) (hp : ∀ q, B.q = some q → PdOf H q pd) (x : RelS Z ⟨H, G, B.q, pd, B.r, G⟩ H' G' S') : Rel Z B σ H' G' ⟨a.ρ, S'⟩ := by
  have mutB : ∀ z, Base.mut ⟨H, G, B.q, pd, B.r, G⟩ Z z → B.mut Z z ∨ B.H0 z = none := fun z hz => by
    rcases hz with hz | ⟨hz, hz2⟩ | hz | hz
    · exact .inl (.inl hz)
    · have st := r.st
      cases hS : a.S with
      | none => rw [hS] at st; exact absurd st hz
      | some S =>
        rw [hS] at st
        obtain ⟨q, pd', s1, s2, s3⟩ := st
        have e : pd = pd' := (hp q s1).uni s2.pd
        have hz2 : z = pd := hz2
        rcases s3 with s3 | s3
        · exact .inl (.inr (.inl ⟨hz, by rw [hz2, e, s3]⟩))
        · exact .inr (by rw [hz2, e]; exact s3)
    · exact .inl (.inr (.inr (.inl hz)))
    · exact .inl (.inr (.inr (.inr hz)))
  have h0 : ∀ z, H z = none → B.H0 z = none := fun z hz => by
    cases q : B.H0 z with
    | none => rfl
    | some o => exact absurd hz (r.dom z (by rw [q]; simp))
  have rs : RelS Z B H' G' S' := by
    refine ⟨x.gh, r.g0.trans x.g0, fun z hz => ?_, fun z hz => x.dom z (r.dom z hz), fun z o hz hm => ?_, ?_, fun z hz => ⟨(x.rn z hz).1, (r.rn z hz).2⟩, r.qn, fun t ht => ⟨(x.tb t ht).1, (x.tb t ht).2.1, (r.tb t ht).2.2⟩⟩
    · rcases x.new z hz with w | w
      · exact r.new z w
      · exact .inr (h0 z w)
    · refine x.keep z o (r.keep z o hz hm) fun w => ?_
      rcases mutB z w with w | w
      · exact hm w
      · rw [hz] at w; cases w
    · have st := x.st
      cases S' with
      | none => exact st
      | some S' =>
        obtain ⟨q, pd', s1, s2, s3⟩ := st
        refine ⟨q, pd', s1, s2, ?_⟩
        rcases s3 with s3 | s3
        · have s3 : pd' = pd := s3
          have st := r.st
          cases hS : a.S with
          | none => rw [hS] at st; have s1 : B.q = some q := s1; have st : B.q = none := st; rw [st] at s1; cases s1
          | some S =>
            rw [hS] at st
            obtain ⟨q2, pd2, t1, t2, t3⟩ := st
            have e : pd = pd2 := (hp q2 t1).uni t2.pd
            rw [s3, e]
            exact t3
        · exact .inr (h0 _ s3)
  -- what is one's own is not touched
  have own : ∀ (p : Addr) (o : HO), H p = some o → B.H0 p = none → G p = none → (∀ q, B.q = some q → ¬ PdOf H q p) → H' p = some o ∧ G' p = none := fun p o h1 h2 h3 h4 => by
    constructor
    · refine x.keep p o h1 fun w => ?_
      rcases w with w | ⟨w, w2⟩ | w | w
      · exact r.qn p w h2
      · have w2 : p = pd := w2
        cases hq : B.q with
        | none => exact w hq
        | some q => exact h4 q hq (by rw [w2]; exact hp q hq)
      · exact (r.rn p w).2 h2
      · exact (r.tb p w).2.2 h2
    · cases q : G' p with
      | none => rfl
      | some o' =>
        rcases x.new p (by rw [q]; simp) with w | w
        · exact absurd h3 w
        · have w : H p = none := w
          rw [h1] at w; cases w
  have ownP : ∀ (p : Addr) (o : HO), H p = some o → (∀ q, B.q = some q → ¬ PdOf H q p) → ∀ q, B.q = some q → ¬ PdOf H' q p := fun p o h1 h4 q hq w => by
    have st := x.st
    cases hS : S' with
    | none => rw [hS] at st; have st : B.q = none := st; rw [st] at hq; cases hq
    | some S =>
      rw [hS] at st
      obtain ⟨q', pd', s1, s2, s3⟩ := st
      have s1 : B.q = some q' := s1
      rw [hq] at s1; cases s1
      have e := w.uni s2.pd
      rcases s3 with s3 | s3
      · have s3 : pd' = pd := s3
        exact h4 q hq (by rw [e, s3]; exact hp q hq)
      · have s3 : H pd' = none := s3
        rw [e, s3] at h1; cases h1
  refine ⟨rs, r.len, fun i y hi => ?_, r.dis, r.gk.trans x.g0⟩
  obtain ⟨v, h1, h2⟩ := r.sl i y hi
  refine ⟨v, h1, ?_⟩
  cases y with
  | im d => exact R.mono x.g0 h2
  | owl ds =>
    obtain ⟨p, vs, rfl, w1, w2, w3, w4⟩ := h2
    obtain ⟨k1, k2⟩ := own p _ w1 w3 w2 (r.npd w1)
    exact ⟨p, vs, rfl, k1, k2, w3, w4.mono x.g0⟩
  | owd ks =>
    obtain ⟨p, vs, rfl, w1, w2, w3, w4, w5⟩ := h2
    obtain ⟨k1, k2⟩ := own p _ w1 w3 w2 w5
    exact ⟨p, vs, rfl, k1, k2, w3, w4.mono x.g0, ownP p _ w1 w5⟩
  | stk => exact h2
  | rng => exact h2
  | kept ws ks => exact kept_mono h2 x.g0 rfl rfl
theorem Args.to {B B' : Base} {H G : Hp} (hq : B'.q = B.q) (hr : B'.r = B.r) : ∀ {xs : List AV} {vs : List V}, Args B H G xs vs → Args B' H G xs vs
  | [], _, h => h
  | x :: xs, _, h => by
    obtain ⟨v, r, rfl, h1, h2, h3⟩ := h
    refine ⟨v, r, rfl, h1, ?_, Args.to hq hr h3⟩
    cases x with
    | im d => exact h2
    | stk => obtain ⟨q, e, f⟩ := h2; exact ⟨q, by rw [hq]; exact e, f⟩
    | rng => obtain ⟨q, e, f⟩ := h2; exact ⟨q, by rw [hr]; exact e, f⟩
    | _ => cases h1
theorem Args.len {B : Base} {H G : Hp} : ∀ {xs : List AV} {vs : List V}, Args B H G xs vs → xs.length = vs.length
  | [], _, h => by cases h; rfl
  | _ :: _, _, h => by
    obtain ⟨v, r, rfl, _, _, h3⟩ := h
    simp [Args.len h3]
end
/-- what a def does: by the wish of its errors, its arguments, the stack -/
abbrev FD := (Err → Option Stk → Prop) → List AV → Option Stk → (D → Option Stk → Prop) → Prop
def spA (Z : Cl) (n : Nat) (F : FD) : Sp := fun vs H Q E => ∃ (B : Base) (xs : List AV) (S : Option Stk) (P : D → Option Stk → Prop) (EA : Err → Option Stk → Prop),
  xs.length = n ∧ B.H0 = H ∧ (∀ q, B.q = some q → PdOf H q B.pd0) ∧ B.GK = B.G0 ∧ RelS Z B H B.G0 S ∧ Args B H B.G0 xs vs ∧ F EA xs S P ∧
  (∀ d S' v H' G', P d S' → RelS Z B H' G' S' → R G' d v → Q v H') ∧ (∀ err S' H' G' c dd, EA err S' → RelS Z B H' G' S' → ErrAt Z err c dd H' → E c dd H')
theorem spA_len {Z : Cl} {n : Nat} {F : FD} {ps : List Str} (h : ps.length = n) : ∀ vs H Q E, spA Z n F vs H Q E → vs.length = ps.length := fun vs H Q E ⟨B, xs, S, P, EA, h1, _, _, _, _, h2, _⟩ => by rw [← h2.len, h1, h]
section
variable {X : Cx} {Z : Cl} {W : WX} {e e1 e2 e3 : Expr} {f g h : FE} {pos p p2 apos : Pos} {rest es : List Expr} {fa : FA} {F : FD} {n k : Nat} {x m : Str} {fA : Addr} {fd : FuncData} {ps : List Str}
theorem spA_of {B : Base} {σ : St} {H G : Hp} {a : A} {Q : VK} {xs : List AV} {vs : List V} {E : XA} {P : D → A → Prop} (r : Rel Z B σ H G a) (w : WOk Z B W E) (hx : Args B H G xs vs) (hn : xs.length = n)
    (h : F E xs a.S fun d S => P d ⟨a.ρ, S⟩) (k : ∀ d a' v H' G', P d a' → Ex G G' → Rel Z B σ H' G' a' → R G' d v → Q v H') : spA Z n F vs H Q (WE W σ) := by
  obtain ⟨pd, hp⟩ := r.pd
  refine ⟨⟨H, G, B.q, pd, B.r, G⟩, xs, a.S, _, _, hn, rfl, hp, rfl, r.enter hp, Args.to (B := B) (B' := ⟨H, G, B.q, pd, B.r, G⟩) (G := G) rfl rfl hx, h, fun d S' v H' G' hd x hv => ?_, fun err S' H' G' c dd he x hc => ?_⟩
  · exact k _ _ _ _ _ hd x.g0 (r.after hp x) hv
  · exact w err σ H' G' S' c dd (r.after hp x).toRelS he hc
def fCall (n : Nat) (F : FD) (fa : FA) : FE := fun E a P => fa E a fun xs a1 => xs.length = n ∧ F E xs a1.S fun d S => P d ⟨a1.ρ, S⟩
theorem acall (K : FnOk X.prog X.w X.K X.mg X.base (L2.CX X.prog X.w) k fA fd ps (spA Z n F)) (hr : Room k X.A) (hm : X.mg x = some (.ref fA)) (hk : PySem.W.keepIn X.K (.ref fA) = true) (hb : Binds X.K fd ps []) (tk : Takes X W) (a : AA X Z W (e :: es) fa)
    (hg : Gl X x) (hdb : (x == ("__debug__" : Str)) = false := by decide) (he : starEach (e :: es) X.env = (false, eval e X.env) :: starEach es X.env := by rfl) (hpl : (backTo pos (starEach es X.env)).any (·.1) = false := by rfl) :
    AE X Z W (.Call (.Name x p) (e :: es) [] pos) (fCall n F fa) := by
  obtain ⟨t, pa, sa⟩ := a.ex
  refine ⟨_, pe_callSD K hr hg hm hk hb .nil (fun σ => passAt tk σ) pa hdb he hpl, fun B σ H G a P Q E r w h k => sa B σ H G a _ _ E r w h fun xs a1 vs H1 G1 h1 e1 r1 x1 => ?_⟩
  rw [List.append_nil]
  exact spA_of r1 w x1 h1.1 h1.2 fun d a' v H' G' q1 q2 q3 q4 => k _ _ _ _ _ q1 (e1.trans q2) q3 q4
/-- a method of the stack in slot i -/
def fMeth (i : Nat) (n : Nat) (F : FD) (fa : FA) : FE := fun E a P => match a.ρ[i]? with
  | some (some .stk) => fa E a fun xs a1 => xs.length + 1 = n ∧ F E (.stk :: xs) a1.S fun d S => P d ⟨a1.ρ, S⟩
  | _ => False
def tMethSD (C : Addr) (m : Str) (sp : Sp) (E : St → XK) (ta : TE) (t : TA) : TE := fun σ H Q => ta σ H fun x H1 => ∃ a dx fs, x = .ref a ∧ H1 a = some (.ins C dx fs) ∧ fs.lookup m = none ∧ t σ H1 fun vs H2 => sp (x :: vs) H2 Q (E σ)
theorem pe_methSD0 {C : Addr} {sp : Sp} {E : St → XK} {pl : Sem Bool} {o : Expr} {ta : TE} (he : PE X o ta) (c : Cls X.K C) (hm : Meth X.K C m fA) (K : FnOk X.prog X.w X.K X.mg X.base (L2.CX X.prog X.w) k fA fd ps sp) (hr : Room k X.A) (hb : Binds X.K fd ps []) (hx : ∀ σ, PassesAt (L2.CX X.prog X.w) X σ (E σ))
    (ht : eval (.Call (.Attribute o m apos) [] [] pos) X.env = (do let ov ← eval o X.env; standAt apos.atName; let (f, first) ← holding [ov] (getMethod ov m pl); callWith pos f first (backTo pos (starEach [] X.env)) (backToKw pos (keywordEach [] X.env)))) :
    PE X (.Call (.Attribute o m apos) [] [] pos) (tMethSD C m sp E ta tNil) := by
  refine ⟨fun pins s σ H Q I h => PySem.W.methodCall_KW (pl := pl) (thn (he.run pins s σ H _ I h) fun u s1 ⟨x, H1, I1, rx, a, dx, fs, ex, ea, l, q⟩ => ?_) ht⟩
  subst ex
  obtain rfl : u = Value.ref a := rx
  exact getmeth_ok I1 ea c hm l (PySem.W.callWith_K0 (first := [.ref a]) I1.kIn hm.kp (run_fnS (us := [.ref a]) (vs := [.ref a]) K hr hb (hx σ) I1 (.cons rfl .nil) q))
theorem pe_methSD {C : Addr} {sp : Sp} {E : St → XK} {pl : Sem Bool} {o : Expr} {ta : TE} {t : TA} (he : PE X o ta) (c : Cls X.K C) (hm : Meth X.K C m fA) (K : FnOk X.prog X.w X.K X.mg X.base (L2.CX X.prog X.w) k fA fd ps sp) (hr : Room k X.A) (hb : Binds X.K fd ps []) (hx : ∀ σ, PassesAt (L2.CX X.prog X.w) X σ (E σ)) (ha : PA X (e :: es) t)
    (h1 : starEach (e :: es) X.env = (false, eval e X.env) :: starEach es X.env) (h2 : (backTo pos (starEach es X.env)).any (·.1) = false)
    (ht : eval (.Call (.Attribute o m apos) (e :: es) [] pos) X.env = (do let ov ← eval o X.env; standAt apos.atName; let (f, first) ← holding [ov] (getMethod ov m pl); callWith pos f first (backTo pos (starEach (e :: es) X.env)) (backToKw pos (keywordEach [] X.env)))) :
    PE X (.Call (.Attribute o m apos) (e :: es) [] pos) (tMethSD C m sp E ta t) := by
  refine ⟨fun pins s σ H Q I h => PySem.W.methodCall_KW (pl := pl) (thn (he.run pins s σ H _ I h) fun u s1 ⟨x, H1, I1, rx, a, dx, fs, ex, ea, l, q⟩ => ?_) ht⟩
  subst ex
  obtain rfl : u = Value.ref a := rx
  refine getmeth_ok I1 ea c hm l ?_
  exact PySem.W.callWith_K (first := [.ref a]) (h₀ := X.base) I1.ok.mod.kin hm.kp (thn (ha.run pos pins s1 σ H1 _ I1 q) fun us s2 ⟨vs, H2, I2, r, q2⟩ => ⟨I2.kIn, run_fnS (us := .ref a :: us) (vs := .ref a :: vs) K hr hb (hx σ) I2 (.cons rfl r) q2⟩) h1 h2
/-- the instance in slot i -/
theorem Rel.inst {B : Base} {σ : St} {H G : Hp} {a : A} {i : Nat} (r : Rel Z B σ H G a) (hi : a.ρ[i]? = some (some .stk)) : ∃ q dx fs, σ[i]? = some (some (.ref q)) ∧ B.q = some q ∧ H q = some (.ins Z.stack dx fs) ∧ ∃ vb vw vp k, fs = flds vb vw vp k := by
  obtain ⟨v, h1, q, h2, rfl⟩ := r.sl i _ hi
  have st := r.st
  cases hS : a.S with
  | none => rw [hS] at st; have st : B.q = none := st; rw [st] at h2; cases h2
  | some S =>
    rw [hS] at st
    obtain ⟨q', pd, s1, s2, s3⟩ := st
    rw [h2] at s1; cases s1
    obtain ⟨dx, vb, vw, ws, t1, _⟩ := s2
    exact ⟨q, dx, _, h1, h2, t1, _, _, _, _, rfl⟩
theorem amth0 (i : Nat) {pl : Sem Bool} {nm : Str} (T : StkTxt X.K Z) (hme : Meth X.K Z.stack m fA) (K : FnOk X.prog X.w X.K X.mg X.base (L2.CX X.prog X.w) k fA fd ps (spA Z n F)) (hr : Room k X.A) (hb : Binds X.K fd ps []) (tk : Takes X W)
    (hmn : ∀ vb vw vp j, (flds vb vw vp j).lookup m = none := by intro _ _ _ _; rfl) (hN : X.N[i]? = some nm := by rfl) (hv : Vis X.env.scope nm := by first | exact Or.inl rfl | exact Or.inr (Or.inl rfl) | exact Or.inr (Or.inr rfl)) (hd : (nm == ("__debug__" : Str)) = false := by decide)
    (hcd : (nm == ("__classdict__" : Str)) = false := by decide)
    (ht : eval (.Call (.Attribute (.Name nm p2) m apos) [] [] pos) X.env = (do let ov ← eval (.Name nm p2) X.env; standAt apos.atName; let (f, first) ← holding [ov] (getMethod ov m pl); callWith pos f first (backTo pos (starEach [] X.env)) (backToKw pos (keywordEach [] X.env))) := by rfl) :
    AE X Z W (.Call (.Attribute (.Name nm p2) m apos) [] [] pos) (fMeth i n F fNil) := by
  refine ⟨_, pe_methSD0 (pe_var hN hv hd hcd) T.cl hme K hr hb (fun σ => passAt tk σ) ht, fun B σ H G a P Q E r w h k => ?_⟩
  unfold fMeth at h
  split at h
  · rename_i hi
    obtain ⟨q, dx, fs, h1, h2, h3, vb, vw, vp, j, rfl⟩ := r.inst hi
    refine ⟨_, h1, q, dx, _, rfl, h3, hmn _ _ _ _, ?_⟩
    exact spA_of (xs := [.stk]) r w ⟨_, [], rfl, rfl, ⟨q, h2, rfl⟩, rfl⟩ h.1 h.2 k
  · exact h.elim
theorem amth (i : Nat) {pl : Sem Bool} {nm : Str} (T : StkTxt X.K Z) (hme : Meth X.K Z.stack m fA) (K : FnOk X.prog X.w X.K X.mg X.base (L2.CX X.prog X.w) k fA fd ps (spA Z n F)) (hr : Room k X.A) (hb : Binds X.K fd ps []) (tk : Takes X W) (b : AA X Z W (e :: es) fa)
    (hmn : ∀ vb vw vp j, (flds vb vw vp j).lookup m = none := by intro _ _ _ _; rfl) (hN : X.N[i]? = some nm := by rfl) (hv : Vis X.env.scope nm := by first | exact Or.inl rfl | exact Or.inr (Or.inl rfl) | exact Or.inr (Or.inr rfl)) (hd : (nm == ("__debug__" : Str)) = false := by decide)
    (hcd : (nm == ("__classdict__" : Str)) = false := by decide) (he : starEach (e :: es) X.env = (false, eval e X.env) :: starEach es X.env := by rfl) (hpl : (backTo pos (starEach es X.env)).any (·.1) = false := by rfl)
    (ht : eval (.Call (.Attribute (.Name nm p2) m apos) (e :: es) [] pos) X.env = (do let ov ← eval (.Name nm p2) X.env; standAt apos.atName; let (f, first) ← holding [ov] (getMethod ov m pl); callWith pos f first (backTo pos (starEach (e :: es) X.env)) (backToKw pos (keywordEach [] X.env))) := by rfl) :
    AE X Z W (.Call (.Attribute (.Name nm p2) m apos) (e :: es) [] pos) (fMeth i n F fa) := by
  obtain ⟨t, pa, sa⟩ := b.ex
  refine ⟨_, pe_methSD (pe_var hN hv hd hcd) T.cl hme K hr hb (fun σ => passAt tk σ) pa he hpl ht, fun B σ H G a P Q E r w h k => ?_⟩
  unfold fMeth at h
  split at h
  · rename_i hi
    obtain ⟨q, dx, fs, h1, h2, h3, vb, vw, vp, j, rfl⟩ := r.inst hi
    refine ⟨_, h1, q, dx, _, rfl, h3, hmn _ _ _ _, sa B σ H G a _ _ E r w h fun xs a1 vs H1 G1 h4 e1 r1 x1 => ?_⟩
    exact spA_of (xs := .stk :: xs) r1 w ⟨_, vs, rfl, rfl, ⟨q, h2, rfl⟩, x1⟩ h4.1 h4.2 fun d a' v H' G' q1 q2 q3 q4 => k _ _ _ _ _ q1 (e1.trans q2) q3 q4
  · exact h.elim
end
end Ab


namespace Ab
open PySem L2
/-! ### statements -/
structure AEnds where
  nx : A → Prop
  rt : D → A → Prop
  ex : XA
  bk : A → Prop := fun _ => False
  ct : A → Prop := fun _ => False
structure EndsOk (Z : Cl) (B : Base) (Dn : Ends) (En : AEnds) : Prop where
  nx : ∀ σ H G a, Rel Z B σ H G a → En.nx a → Dn.nx σ H
  rt : ∀ d v σ H G a, Rel Z B σ H G a → R G d v → En.rt d a → Dn.rt v H
  bk : ∀ σ H G a, Rel Z B σ H G a → En.bk a → Dn.bk σ H
  ct : ∀ σ H G a, Rel Z B σ H G a → En.ct a → Dn.ct σ H
abbrev FS := AEnds → A → Prop
structure AS (X : Cx) (Z : Cl) (W : WX) (st : Stmt) (f : FS) : Prop where
  ex : ∃ t, PS X st t ∧ ∀ B σ H G a Dn En, Rel Z B σ H G a → WOk Z B W En.ex → EndsOk Z B Dn En → f En a → t Dn σ H
structure ASs (X : Cx) (Z : Cl) (W : WX) (st : List Stmt) (f : FS) : Prop where
  ex : ∃ t, PSs X st t ∧ ∀ B σ H G a Dn En, Rel Z B σ H G a → WOk Z B W En.ex → EndsOk Z B Dn En → f En a → t Dn σ H
theorem SlotR.up {B : Base} {H G G' : Hp} {x : AV} {v : V} (s : SlotR B H G x v) (e : Ex G G') (n : ∀ p, G' p ≠ none → G p ≠ none ∨ H p = none) : SlotR B H G' x v := by
  have k : ∀ p o, H p = some o → G p = none → G' p = none := fun p o h g => by
    cases q : G' p with
    | none => rfl
    | some o' => rcases n p (by rw [q]; simp) with w | w
                 · exact absurd g w
                 · rw [h] at w; cases w
  cases x with
  | im d => exact R.mono e s
  | owl ds =>
    obtain ⟨p, vs, rfl, h1, h2, h3, h4⟩ := s
    exact ⟨p, vs, rfl, h1, k _ _ h1 h2, h3, h4.mono e⟩
  | owd ks =>
    obtain ⟨p, vs, rfl, h1, h2, h3, h4, h5⟩ := s
    exact ⟨p, vs, rfl, h1, k _ _ h1 h2, h3, h4.mono e, h5⟩
  | stk => exact s
  | rng => exact s
  | kept ws ks => exact kept_mono s e rfl rfl
section
variable {X : Cx} {Z : Cl} {W : WX} {e e1 e2 e3 : Expr} {f g h : FE} {pos pos' p : Pos} {fl : FL} {fk : FK} {fn : FN} {u w : FQ} {st : Stmt} {sts sts2 : List Stmt} {s t r : FS} {ft : FT}
def sSeq (s t : FS) : FS := fun En a => s { En with nx := t En } a
def sNx : FS := fun En a => En.nx a
theorem ss_nil : ASs X Z W [] sNx := ⟨_, pss_nil, fun B σ H G a Dn En r w k h => k.nx _ _ _ _ r h⟩
theorem ss_one (a : AS X Z W st s) : ASs X Z W [st] s := by
  obtain ⟨t, p, h⟩ := a.ex
  exact ⟨t, pss_one p, h⟩
theorem ss_cons (a : AS X Z W st s) (b : ASs X Z W sts t) : ASs X Z W (st :: sts) (sSeq s t) := by
  obtain ⟨ta, pa, sa⟩ := a.ex
  obtain ⟨tb, pb, sb⟩ := b.ex
  exact ⟨_, pss_cons pa pb, fun B σ H G a Dn En r w k h => sa B σ H G a _ { En with nx := t En } r w ⟨fun σ' H' G' a' r' h' => sb B σ' H' G' a' Dn En r' w k h', k.rt, k.bk, k.ct⟩ h⟩
def sBrk : FS := fun En a => En.bk a
def sCt : FS := fun En a => En.ct a
theorem s_doc {x j} : AS X Z W (.Expr (.Constant (.str x) j pos) pos') sNx := ⟨_, ps_doc, fun B σ H G a Dn En r w k h => k.nx _ _ _ _ r h⟩
/-- e, its value dropped -/
def sDrop (f : FE) : FS := fun En a => f En.ex a fun _ a' => En.nx a'
theorem s_expr (a : AE X Z W e f) (hs : swapsWith e none pos.line X.env = pure false := by rfl) : AS X Z W (.Expr e pos) (sDrop f) := by
  obtain ⟨ta, pa, sa⟩ := a.ex
  exact ⟨_, ps_expr pa hs, fun B σ H G a Dn En r w k h => sa B σ H G a _ _ _ r w h fun d a' v H' G' h1 e1 r1 x1 => k.nx _ _ _ _ r1 h1⟩
def sRet (f : FE) : FS := fun En a => f En.ex a fun d a' => En.rt d a'
theorem s_ret (a : AE X Z W e f) : AS X Z W (.Return (some e) pos) (sRet f) := by
  obtain ⟨ta, pa, sa⟩ := a.ex
  exact ⟨_, ps_ret pa, fun B σ H G a Dn En r w k h => sa B σ H G a _ _ _ r w h fun d a' v H' G' h1 e1 r1 x1 => k.rt _ _ _ _ _ _ r1 x1 h1⟩
def sIf (ft : FT) (s t : FS) : FS := fun En a => ft En.ex a fun b a' => if b = true then s En a' else t En a'
theorem s_if (c : AT X Z W e ft) (a : ASs X Z W sts s) (b : ASs X Z W sts2 t) : AS X Z W (.If e sts sts2 pos) (sIf ft s t) := by
  obtain ⟨tc, pc, sc⟩ := c.ex
  obtain ⟨ta, pa, sa⟩ := a.ex
  obtain ⟨tb, pb, sb⟩ := b.ex
  refine ⟨_, ps_if pc pa pb, fun B σ H G a Dn En r w k h => sc B σ H G a _ _ _ r w h fun b a' H' G' h1 e1 r1 => ?_⟩
  cases b with
  | true =>
    rw [if_pos rfl] at h1 ⊢
    exact sa B σ H' G' a' Dn En r1 w k h1
  | false =>
    rw [if_neg Bool.false_ne_true] at h1 ⊢
    exact sb B σ H' G' a' Dn En r1 w k h1
/-! ### names -/
variable {i j l : Nat} {x y z : Str}
def sSet (i : Nat) (f : FE) : FS := fun En a => f En.ex a fun d a' => En.nx (a'.put i (.im d))
theorem s_set (i : Nat) (a : AE X Z W e f) (hN : X.N.Nodup) (hi : X.N[i]? = some x := by rfl) (hx : Loc X.env.scope x := by first | exact Or.inl rfl | exact Or.inr rfl) (hs : swapsWith e (some (.Name x pos')) pos.line X.env = pure false := by rfl)
    (hf : X.fn x = true ∨ X.env.scope.names.lookup x = some .local := by first | exact .inl rfl | exact .inr rfl) : AS X Z W (.Assign [.Name x pos'] e pos) (sSet i f) := by
  obtain ⟨ta, pa, sa⟩ := a.ex
  exact ⟨_, ps_set hN hi hx pa hs hf, fun B σ H G a Dn En r w k h => sa B σ H G a _ _ _ r w h fun d a' v H' G' h1 e1 r1 x1 => k.nx _ _ _ _ (r1.setIm x1) h1⟩
/-- what is new and one's own comes into slot i -/
theorem Rel.own {B : Base} {σ : St} {H G : Hp} {a : A} {p : Addr} {o : HO} {x : AV} (r : Rel Z B σ H G a) (hp : H p = none) (hn : NewR G x o) : Rel Z B (σ.set i (some (.ref p))) (upd H p o) G (a.put i x) := by
  have r2 := r.unknown (o := o) hp
  have hp0 : B.H0 p = none := by
    cases q : B.H0 p with
    | none => rfl
    | some w => exact absurd hp (r.dom p (by rw [q]; simp))
  have gp := r.gh.free hp
  have far : ∀ (j : Nat) (q : Addr) (y : AV), a.ρ[j]? = some (some y) → y.owned = true → V.ref p = V.ref q → σ[j]? = some (some (.ref q)) → False := fun j q y h1 h2 h3 h4 => by
    cases h3
    obtain ⟨v, k1, k2⟩ := r.sl j y h1
    rw [h4] at k1
    cases k1
    cases y with
    | owl ds => obtain ⟨q, vs, e, k3, _⟩ := k2; cases e; rw [hp] at k3; cases k3
    | owd ds => obtain ⟨q, vs, e, k3, _⟩ := k2; cases e; rw [hp] at k3; cases k3
    | _ => cases h2
  refine r2.set (v := .ref p) ?_ fun _ j q y _ h1 h2 h3 h4 => far j q y h1 h2 h3 h4
  cases x with
  | owl ds => cases o with
    | lst vs => exact ⟨p, vs, rfl, upd_same, gp, hp0, hn⟩
    | _ => exact hn.elim
  | owd ks => cases o with
    | dK ws =>
      refine ⟨p, ws, rfl, upd_same, gp, hp0, hn, fun q hq k => ?_⟩
      have st := r.st
      cases hS : a.S with
      | none => rw [hS] at st; have st : B.q = none := st; rw [st] at hq; cases hq
      | some S =>
        rw [hS] at st
        obtain ⟨q', pd, s1, s2, s3⟩ := st
        rw [hq] at s1; cases s1
        have hne : q ≠ p := fun e => r.qh q hq (by rw [e]; exact hp)
        obtain ⟨C, dx, fs, k1, k2⟩ := k
        rw [upd_ne hne] at k1
        have e := PdOf.uni ⟨C, dx, fs, k1, k2⟩ s2.pd
        exact s2.some1.2 (by rw [← e]; exact hp)
    | _ => exact hn.elim
  | _ => cases o <;> exact hn.elim
def sOwn (i : Nat) (f : FN) : FS := fun En a => f En.ex a fun x a' => En.nx (a'.put i x)
theorem s_own (i : Nat) (a : AN X Z W e fn) (hN : X.N.Nodup) (hi : X.N[i]? = some x := by rfl) (hx : Loc X.env.scope x := by first | exact Or.inl rfl | exact Or.inr rfl) (hs : swapsWith e (some (.Name x pos')) pos.line X.env = pure false := by rfl)
    (hf : X.fn x = true ∨ X.env.scope.names.lookup x = some .local := by first | exact .inl rfl | exact .inr rfl) : AS X Z W (.Assign [.Name x pos'] e pos) (sOwn i fn) := by
  obtain ⟨ta, pa, sa⟩ := a.ex
  exact ⟨_, ps_set hN hi hx pa hs hf, fun B σ H G a Dn En r w k h => sa B σ H G a _ _ _ r w h fun y a' p o H' G' h1 e1 r1 hp hn => k.nx _ _ _ _ (r1.own hp hn) h1⟩
/-- x op= e -/
def sAug (i : Nat) (F : F2) (f : FE) : FS := fun En a => match a.ρ[i]? with
  | some (some (.im d)) => f En.ex a fun y a' => F d y fun z => En.nx (a'.put i (.im z))
  | _ => False
theorem s_aug (i : Nat) {op : Operator} {F : F2} (o : AOp X (inplaceOp op) F) (a : AE X Z W e f) (hN : X.N.Nodup) (hi : X.N[i]? = some x := by rfl) (hx : Loc X.env.scope x := by first | exact Or.inl rfl | exact Or.inr rfl)
    (hf : X.fn x = true ∨ X.env.scope.names.lookup x = some .local := by first | exact .inl rfl | exact .inr rfl) : AS X Z W (.AugAssign (.Name x pos') op e pos) (sAug i F f) := by
  obtain ⟨r, hr, hs⟩ := o.ex
  obtain ⟨ta, pa, sa⟩ := a.ex
  refine ⟨_, ps_aug hN hi hx pa (ti := r) (fun pins s σ H x y v u Q I rx ry q => hr pins s σ H x y v u Q I rx ry q) hf, fun B σ H G a Dn En rl w k h => ?_⟩
  unfold sAug at h
  split at h
  · rename_i d hi
    obtain ⟨v, h1, h2⟩ := rl.sl i _ hi
    refine ⟨v, h1, sa B σ H G a _ _ _ rl w h fun y a' u H' G' h3 e1 r1 x1 => ?_⟩
    exact hs H' G' v u d y _ _ r1.gh (R.mono e1 h2) x1 h3 fun z hz => ⟨fun z' hz' => k.nx _ _ _ _ (r1.setIm hz') hz, fun p o hp hz' => k.nx _ _ _ _ ((r1.known hp).setIm hz') hz⟩
  · exact h.elim
/-- x, y = a, b -/
def sPar (i j : Nat) (f g : FE) : FS := fun En a => f En.ex a fun d a1 => g En.ex a1 fun d' a2 => En.nx ((a2.put i (.im d)).put j (.im d'))
theorem s_par (i j : Nat) {px py pt : Pos} {kt k2 pt2} (a : AE X Z W e1 f) (b : AE X Z W e2 g) (hc : X.calm = true) (hN : X.N.Nodup) (hi : X.N[i]? = some x := by rfl) (hj : X.N[j]? = some y := by rfl) (hij : i ≠ j := by decide)
    (hx : X.env.scope.names.lookup x = some .local := by rfl) (hy : X.env.scope.names.lookup y = some .local := by rfl)
    (h1 : starEach [e1, e2] X.env = (false, eval e1 X.env) :: starEach [e2] X.env := by rfl) (h2 : starEach [e2] X.env = (false, eval e2 X.env) :: starEach [] X.env := by rfl)
    (hw : swappedStores [.Tuple [.Name x px, .Name y py] kt pt] (.Tuple [e1, e2] k2 pt2) X.env = pure (some [x, y]) := by rfl)
    (hs : swapsWithSole [.Tuple [.Name x px, .Name y py] kt pt] (.Tuple [e1, e2] k2 pt2) pos.line X.env = pure false := by rfl) :
    AS X Z W (.Assign [.Tuple [.Name x px, .Name y py] kt pt] (.Tuple [e1, e2] k2 pt2) pos) (sPar i j f g) := by
  obtain ⟨ta, pa, sa⟩ := a.ex
  obtain ⟨tb, pb, sb⟩ := b.ex
  exact ⟨_, ps_par hc hN hi hj hij hx hy (pa_cons pa (pa_cons pb pa_nil h2) h1) hw hs, fun B σ H G a Dn En r w k h => sa B σ H G a _ _ _ r w h fun d a' v H' G' h1 e1 r1 x1 =>
    sb B σ H' G' a' _ _ _ r1 w h1 fun d' a2 v' H2 G2 h2 e2 r2 x2 => ⟨v, v', rfl, k.nx _ _ _ _ ((r2.setIm (x1.mono e2)).setIm x2) h2⟩⟩
/-- x, y = [], b -/
def sParN (i j : Nat) (u : FQ) : FS := fun En a => u a fun d => En.nx ((a.put i (.owl [])).put j (.im d))
theorem s_parN (i j : Nat) {px py pt pl : Pos} {kt k2 pt2} (b : AQ X Z e2 u) (hc : X.calm = true) (hN : X.N.Nodup) (hi : X.N[i]? = some x := by rfl) (hj : X.N[j]? = some y := by rfl) (hij : i ≠ j := by decide)
    (hx : X.env.scope.names.lookup x = some .local := by rfl) (hy : X.env.scope.names.lookup y = some .local := by rfl)
    (h1 : starEach [.List [] pl, e2] X.env = (false, eval (.List [] pl) X.env) :: starEach [e2] X.env := by rfl) (h2 : starEach [e2] X.env = (false, eval e2 X.env) :: starEach [] X.env := by rfl)
    (hw : swappedStores [.Tuple [.Name x px, .Name y py] kt pt] (.Tuple [.List [] pl, e2] k2 pt2) X.env = pure (some [x, y]) := by rfl)
    (hs : swapsWithSole [.Tuple [.Name x px, .Name y py] kt pt] (.Tuple [.List [] pl, e2] k2 pt2) pos.line X.env = pure false := by rfl) :
    AS X Z W (.Assign [.Tuple [.Name x px, .Name y py] kt pt] (.Tuple [.List [] pl, e2] k2 pt2) pos) (sParN i j u) := by
  obtain ⟨tb, pb, sb⟩ := b.ex
  refine ⟨_, ps_par hc hN hi hj hij hx hy (pa_cons (pe_lst pa_nil) (pa_cons pb pa_nil h2) h1) hw hs, fun B σ H G a Dn En r w k h => ⟨Nat.zero_le _, fun p hp => ?_⟩⟩
  refine sb B σ _ G a _ _ (r.unknown hp) h fun d v h1 h2 => ⟨.ref p, v, rfl, k.nx _ _ _ _ ((r.own (i := i) (x := .owl []) (o := .lst []) hp (show Rs G [] [] from rfl)).setIm h2) h1⟩
/-- x, y, z, t = [], [], 0, 0 -/
def sQuad (i j l m : Nat) (u w : FQ) : FS := fun En a => u a fun d => w a fun d' => En.nx ((((a.put i (.owl [])).put j (.owl [])).put l (.im d)).put m (.im d'))
theorem s_quad (i j l m : Nat) {x3 : Str} {p0 p1 p3 p4 pt pl pl2 : Pos} {kt k2 pt2} (b : AQ X Z e2 u) (c : AQ X Z e3 w) (hc : X.calm = true) (hN : X.N.Nodup) (hi : X.N[i]? = some x := by rfl) (hj : X.N[j]? = some y := by rfl) (hl : X.N[l]? = some z := by rfl) (hm : X.N[m]? = some x3 := by rfl)
    (hx : Loc X.env.scope x := by first | exact Or.inl rfl | exact Or.inr rfl) (hy : Loc X.env.scope y := by first | exact Or.inl rfl | exact Or.inr rfl) (hz : Loc X.env.scope z := by first | exact Or.inl rfl | exact Or.inr rfl) (hx3 : Loc X.env.scope x3 := by first | exact Or.inl rfl | exact Or.inr rfl)
    (f1 : X.fn x = true ∨ X.env.scope.names.lookup x = some .local := by first | exact .inl rfl | exact .inr rfl) (f2 : X.fn y = true ∨ X.env.scope.names.lookup y = some .local := by first | exact .inl rfl | exact .inr rfl)
    (f3 : X.fn z = true ∨ X.env.scope.names.lookup z = some .local := by first | exact .inl rfl | exact .inr rfl) (f4 : X.fn x3 = true ∨ X.env.scope.names.lookup x3 = some .local := by first | exact .inl rfl | exact .inr rfl)
    (h1 : starEach [.List [] pl, .List [] pl2, e2, e3] X.env = (false, eval (.List [] pl) X.env) :: starEach [.List [] pl2, e2, e3] X.env := by rfl) (h2 : starEach [.List [] pl2, e2, e3] X.env = (false, eval (.List [] pl2) X.env) :: starEach [e2, e3] X.env := by rfl)
    (h3 : starEach [e2, e3] X.env = (false, eval e2 X.env) :: starEach [e3] X.env := by rfl) (h4 : starEach [e3] X.env = (false, eval e3 X.env) :: starEach [] X.env := by rfl)
    (g4 : (assignEach [.Name x3 p4] X.env).map (·.2) = assign (.Name x3 p4) X.env :: (assignEach [] X.env).map (·.2) := by rfl)
    (g3 : (assignEach [.Name z p3, .Name x3 p4] X.env).map (·.2) = assign (.Name z p3) X.env :: (assignEach [.Name x3 p4] X.env).map (·.2) := by rfl)
    (g2 : (assignEach [.Name y p1, .Name z p3, .Name x3 p4] X.env).map (·.2) = assign (.Name y p1) X.env :: (assignEach [.Name z p3, .Name x3 p4] X.env).map (·.2) := by rfl)
    (g1 : (assignEach [.Name x p0, .Name y p1, .Name z p3, .Name x3 p4] X.env).map (·.2) = assign (.Name x p0) X.env :: (assignEach [.Name y p1, .Name z p3, .Name x3 p4] X.env).map (·.2) := by rfl)
    (hn : (assignEach [.Name x p0, .Name y p1, .Name z p3, .Name x3 p4] X.env).length = 4 := by rfl) (hst : (assignEach [.Name x p0, .Name y p1, .Name z p3, .Name x3 p4] X.env).findIdx? (·.1) = none := by rfl)
    (hs : swapsWithSole [.Tuple [.Name x p0, .Name y p1, .Name z p3, .Name x3 p4] kt pt] (.Tuple [.List [] pl, .List [] pl2, e2, e3] k2 pt2) pos.line X.env = pure false := by rfl)
    (hw : swappedStores [.Tuple [.Name x p0, .Name y p1, .Name z p3, .Name x3 p4] kt pt] (.Tuple [.List [] pl, .List [] pl2, e2, e3] k2 pt2) X.env = pure none := by rfl)
    (ha : (assignEach [.Tuple [.Name x p0, .Name y p1, .Name z p3, .Name x3 p4] kt pt] X.env).map (·.2) = [assign (.Tuple [.Name x p0, .Name y p1, .Name z p3, .Name x3 p4] kt pt) X.env] := by rfl) :
    AS X Z W (.Assign [.Tuple [.Name x p0, .Name y p1, .Name z p3, .Name x3 p4] kt pt] (.Tuple [.List [] pl, .List [] pl2, e2, e3] k2 pt2) pos) (sQuad i j l m u w) := by
  obtain ⟨tb, pb, sb⟩ := b.ex
  obtain ⟨tc, pc, sc⟩ := c.ex
  refine ⟨_, ps_asg (pe_tup (pa_cons (pe_lst pa_nil) (pa_cons (pe_lst pa_nil) (pa_cons pb (pa_cons pc pa_nil h4) h3) h2) h1)) (pg_tup hc (pgs_cons (pg_name hN hi hx f1) (pgs_cons (pg_name hN hj hy f2) (pgs_cons (pg_name hN hl hz f3) (pgs_cons (pg_name hN hm hx3 f4) pgs_nil g4) g3) g2) g1) hn hst) hs hw ha,
    fun B σ H G a Dn En r w k h => ⟨Nat.zero_le _, fun q1 hq1 => ⟨Nat.zero_le _, fun q2 hq2 => ?_⟩⟩⟩
  have r1 := r.unknown (o := .lst []) hq1
  have r2 := r1.unknown (o := .lst []) hq2
  refine sb B σ _ G a _ _ r2 h fun d v h1 x1 => sc B σ _ G a _ _ r2 h1 fun d' v' h2 x2 => ⟨by show 4 ≤ sizeLine; rw [sizeLine_eq]; omega, fun T hT => ?_⟩
  have n1 : q1 ≠ T := fun e => by rw [← e, upd_ne (fun z => by rw [z, upd_same] at hq2; cases hq2), upd_same] at hT; cases hT
  have n2 : q2 ≠ T := fun e => by rw [← e, upd_same] at hT; cases hT
  have n12 : q1 ≠ q2 := fun z => by rw [← z, upd_same] at hq2; cases hq2
  refine ⟨T, _, rfl, SqT.of upd_same, rfl, .ref q1, _, rfl, .ref q2, _, rfl, v, _, rfl, v', _, rfl, rfl, ?_⟩
  -- the heap with the garbage first
  have hT0 : H T = none := by
    rw [upd_ne n2.symm, upd_ne n1.symm] at hT
    exact hT
  have hq2' : H q2 = none := by rw [upd_ne n12.symm] at hq2; exact hq2
  have sw : upd (upd (upd H q1 (.lst [])) q2 (.lst [])) T (.tup [V.ref q1, V.ref q2, v, v']) = upd (upd (upd H T (.tup [V.ref q1, V.ref q2, v, v'])) q1 (.lst [])) q2 (.lst []) := by
    funext c
    unfold upd
    by_cases c1 : c = T
    · subst c1
      rw [if_pos rfl, if_neg n2.symm, if_neg n1.symm, if_pos rfl]
    · rw [if_neg c1, if_neg c1]
  rw [sw]
  have s0 := r.unknown (o := .tup [V.ref q1, V.ref q2, v, v']) hT0
  have s1 := s0.own (i := i) (x := .owl []) (o := .lst []) (p := q1) (by rw [upd_ne n1]; exact hq1) (show Rs G [] [] from rfl)
  have s2 := s1.own (i := j) (x := .owl []) (o := .lst []) (p := q2) (by rw [upd_ne n12.symm, upd_ne n2]; exact hq2') (show Rs G [] [] from rfl)
  exact k.nx _ _ _ _ ((s2.setIm x1).setIm x2) h2
/-- x, y, z = a, b, (something new) -/
def sTri (i j l : Nat) (f g : FE) (fn : FN) : FS := fun En a => f En.ex a fun d a1 => g En.ex a1 fun d' a2 => fn En.ex a2 fun n a3 => En.nx (((a3.put i (.im d)).put j (.im d')).put l n)
theorem s_tri (i j l : Nat) {px py pz pt : Pos} {kt k2 pt2} (a : AE X Z W e1 f) (b : AE X Z W e2 g) (c : AN X Z W e3 fn) (hc : X.calm = true) (hN : X.N.Nodup) (hi : X.N[i]? = some x := by rfl) (hj : X.N[j]? = some y := by rfl) (hl : X.N[l]? = some z := by rfl) (hij : i ≠ j := by decide) (hil : i ≠ l := by decide) (hjl : j ≠ l := by decide)
    (hx : X.env.scope.names.lookup x = some .local := by rfl) (hy : X.env.scope.names.lookup y = some .local := by rfl) (hz : X.env.scope.names.lookup z = some .local := by rfl)
    (h1 : starEach [e1, e2, e3] X.env = (false, eval e1 X.env) :: starEach [e2, e3] X.env := by rfl) (h2 : starEach [e2, e3] X.env = (false, eval e2 X.env) :: starEach [e3] X.env := by rfl) (h3 : starEach [e3] X.env = (false, eval e3 X.env) :: starEach [] X.env := by rfl)
    (hw : swappedStores [.Tuple [.Name x px, .Name y py, .Name z pz] kt pt] (.Tuple [e1, e2, e3] k2 pt2) X.env = pure (some [x, y, z]) := by rfl)
    (hs : swapsWithSole [.Tuple [.Name x px, .Name y py, .Name z pz] kt pt] (.Tuple [e1, e2, e3] k2 pt2) pos.line X.env = pure false := by rfl) :
    AS X Z W (.Assign [.Tuple [.Name x px, .Name y py, .Name z pz] kt pt] (.Tuple [e1, e2, e3] k2 pt2) pos) (sTri i j l f g fn) := by
  obtain ⟨ta, pa, sa⟩ := a.ex
  obtain ⟨tb, pb, sb⟩ := b.ex
  obtain ⟨tc, pc, sc⟩ := c.ex
  exact ⟨_, ps_par3 hc hN hi hj hl hij hil hjl hx hy hz (pa_cons pa (pa_cons pb (pa_cons pc pa_nil h3) h2) h1) hw hs, fun B σ H G a Dn En r w k h => sa B σ H G a _ _ _ r w h fun d a' v H' G' h1 e1 r1 x1 =>
    sb B σ H' G' a' _ _ _ r1 w h1 fun d' a2 v' H2 G2 h2 e2 r2 x2 => sc B σ H2 G2 a2 _ _ _ r2 w h2 fun n a3 p o H3 G3 h3 e3 r3 hp hn => ⟨v, v', .ref p, rfl,
      k.nx _ _ _ _ (Rel.own ((r3.setIm (x1.mono (e2.trans e3))).setIm (x2.mono e3)) hp hn) h3⟩⟩
end
end Ab


namespace Ab
open PySem L2
/-! ### targets -/
abbrev FG := D → A → (A → Prop) → Prop
abbrev FGs := List D → A → (A → Prop) → Prop
/-- names; ws: the slots that are written -/
structure AG (X : Cx) (Z : Cl) (tg : Expr) (ws : List Nat) (g : FG) : Prop where
  ex : ∃ t, PG X tg t ∧ ∀ B σ H G a d v P Q, Rel Z B σ H G a → R G d v → g d a P → (∀ a' σ', P a' → Rel Z B σ' H G a' → a'.S = a.S → σ'.length = σ.length → (∀ j, j ∉ ws → σ'[j]? = σ[j]?) → Q σ' H) → t v σ H Q
structure AGs (X : Cx) (Z : Cl) (tgs : List Expr) (ws : List Nat) (g : FGs) : Prop where
  ex : ∃ t, PGs X tgs t ∧ ∀ B σ H G a ds vs P Q, Rel Z B σ H G a → Rs G ds vs → g ds a P → (∀ a' σ', P a' → Rel Z B σ' H G a' → a'.S = a.S → σ'.length = σ.length → (∀ j, j ∉ ws → σ'[j]? = σ[j]?) → Q σ' H) → t vs σ H Q
section
variable {X : Cx} {Z : Cl} {W : WX} {e e1 e2 : Expr} {es : List Expr} {g g1 : FG} {gs : FGs} {ws ws1 : List Nat} {pos : Pos} {i : Nat} {x : Str}
def gNm (i : Nat) : FG := fun d a P => P (a.put i (.im d))
theorem g_nm (i : Nat) (hN : X.N.Nodup) (hi : X.N[i]? = some x := by rfl) (hx : Loc X.env.scope x := by first | exact Or.inl rfl | exact Or.inr rfl) (hf : X.fn x = true ∨ X.env.scope.names.lookup x = some .local := by first | exact .inl rfl | exact .inr rfl) :
    AG X Z (.Name x pos) [i] (gNm i) :=
  ⟨_, pg_name hN hi hx hf, fun B σ H G a d v P Q r hv h k => k _ _ h (r.setIm hv) rfl (List.length_set ..) fun j hj => by
    rw [List.getElem?_set_ne (fun z => hj (by rw [z]; exact List.mem_singleton.mpr rfl))]⟩
def gsNil : FGs := fun ds a P => match ds with
  | [] => P a
  | _ => False
def gsCons (g : FG) (gs : FGs) : FGs := fun ds a P => match ds with
  | d :: r => g d a fun a1 => gs r a1 P
  | [] => False
theorem gs_nil : AGs X Z [] [] gsNil := ⟨_, pgs_nil, fun B σ H G a ds vs P Q r hv h k => by
  cases ds with
  | nil => cases hv; exact ⟨rfl, k _ _ h r rfl rfl fun _ _ => rfl⟩
  | cons d ds => exact h.elim⟩
theorem gs_cons (a : AG X Z e ws g) (b : AGs X Z es ws1 gs) (hs : (assignEach (e :: es) X.env).map (·.2) = assign e X.env :: (assignEach es X.env).map (·.2) := by rfl) : AGs X Z (e :: es) (ws ++ ws1) (gsCons g gs) := by
  obtain ⟨ta, pa, sa⟩ := a.ex
  obtain ⟨tb, pb, sb⟩ := b.ex
  refine ⟨_, pgs_cons pa pb hs, fun B σ H G a ds vs P Q r hv h k => ?_⟩
  cases ds with
  | nil => exact h.elim
  | cons d ds =>
    obtain ⟨v, r', rfl, h1, h2⟩ := hv
    refine ⟨v, r', rfl, sa B σ H G a d v _ _ r h1 h fun a1 σ1 q1 r1 s1 l1 n1 => sb B σ1 H G a1 ds r' _ _ r1 h2 q1 fun a2 σ2 q2 r2 s2 l2 n2 => k _ _ q2 r2 (s2.trans s1) (l2.trans l1) fun j hj => ?_⟩
    rw [n2 j fun z => hj (List.mem_append.mpr (.inr z)), n1 j fun z => hj (List.mem_append.mpr (.inl z))]
def gTp (gs : FGs) : FG := fun d a P => match d with
  | .tup ds => gs ds a P
  | _ => False
/-- a tuple of targets: as many items as targets -/
theorem g_tp {k n : Nat} (hc : X.calm = true) (b : AGs X Z es ws gs) (hl : ∀ ds a P, gs ds a P → ds.length = n) (hn : (assignEach es X.env).length = n := by rfl) (hst : (assignEach es X.env).findIdx? (·.1) = none := by rfl) : AG X Z (.Tuple es k pos) ws (gTp gs) := by
  obtain ⟨tb, pb, sb⟩ := b.ex
  refine ⟨_, pg_tup hc pb hn hst, fun B σ H G a d v P Q r hv h k => ?_⟩
  cases d with
  | tup ds =>
    obtain ⟨p, vs, rfl, h1, h2⟩ := hv
    exact ⟨p, vs, rfl, SqT.of (r.gh _ _ h1), by rw [← h2.len]; exact hl ds a P h, sb B σ H G a ds vs _ _ r h2 h k⟩
  | _ => exact h.elim
theorem gl0 : ∀ ds a P, gsNil ds a P → ds.length = 0
  | [], _, _, _ => rfl
theorem gl1 {i : Nat} {gs : FGs} {n : Nat} (h : ∀ ds a P, gs ds a P → ds.length = n) : ∀ ds a P, gsCons (gNm i) gs ds a P → ds.length = n + 1
  | d :: r, a, P, q => by rw [List.length_cons, h r _ _ q]
theorem gl2 {g1 gs : FGs} {n : Nat} (h : ∀ ds a P, gs ds a P → ds.length = n) (m : ∀ ds a P, g1 ds a P → ∃ a', P a') : ∀ ds a P, gsCons (gTp g1) gs ds a P → ds.length = n + 1
  | .tup es :: r, a, P, q => by
    obtain ⟨a', q⟩ := m es a _ q
    rw [List.length_cons, h r _ _ q]
theorem gm0 : ∀ ds a P, gsNil ds a P → ∃ a', P a'
  | [], a, P, q => ⟨a, q⟩
theorem gm1 {i : Nat} {gs : FGs} (h : ∀ ds a P, gs ds a P → ∃ a', P a') : ∀ ds a P, gsCons (gNm i) gs ds a P → ∃ a', P a'
  | d :: r, a, P, q => h r _ _ q
/-! ### what is walked -/
abbrev FI := XA → A → (List D → A → Prop) → Prop
def IterOk (G : Hp) (J : It) (ds : List D) : Prop := ∃ Gd Y, Walk J ds.length Gd Y ∧ (∀ H, Ex G H → Gd H) ∧ ∀ i H1 x H2, i < ds.length → Ex G H1 → Y i H1 x H2 →
  ∃ d, ds[i]? = some d ∧ ((H2 = H1 ∧ R G d x) ∨ ∃ p o, x = .ref p ∧ H1 p = none ∧ H2 = upd H1 p o ∧ ∀ G1, Ex G G1 → G1 p = none → R (upd G1 p o) d (.ref p))
structure AI (X : Cx) (Z : Cl) (W : WX) (tg iter : Expr) (f : FI) : Prop where
  ex : ∃ wi, PI X tg iter wi ∧ ∀ B σ H G a P Q E, Rel Z B σ H G a → WOk Z B W E → f E a P → (∀ ds a' H' G' J, P ds a' → Ex G G' → Rel Z B σ H' G' a' → IterOk G' J ds → Q J H') → wi σ H Q
variable {f : FE} {tg : Expr} {p : Pos}
theorem iter_list {K : PySem.W.Frag} {G : Hp} {p : Addr} {ds : List D} {vs : List V} (h : G p = some (.lst vs)) (k : Rs G ds vs) : IterOk G (Itl K p) ds := by
  refine ⟨_, _, by rw [k.len]; exact walk_list, fun H e => SqL.of (e _ _ h), fun i H1 x H2 hi e y => ?_⟩
  obtain ⟨d, h1, h2⟩ := k.back y.2
  exact ⟨d, h1, .inl ⟨y.1, h2⟩⟩
theorem iter_tup {K : PySem.W.Frag} {G : Hp} {p : Addr} {ds : List D} {vs : List V} (h : G p = some (.tup vs)) (k : Rs G ds vs) : IterOk G (Itt K p) ds := by
  refine ⟨_, _, by rw [k.len]; exact walk_tup, fun H e => SqT.of (e _ _ h), fun i H1 x H2 hi e y => ?_⟩
  obtain ⟨d, h1, h2⟩ := k.back y.2
  exact ⟨d, h1, .inl ⟨y.1, h2⟩⟩
def iL (f : FE) : FI := fun E a P => f E a fun d a' => match d with
  | .lst ds => P ds a'
  | _ => False
def iT (f : FE) : FI := fun E a P => f E a fun d a' => match d with
  | .tup ds => P ds a'
  | _ => False
theorem i_l (a : AE X Z W e f) : AI X Z W tg e (iL f) := by
  obtain ⟨t, p, s⟩ := a.ex
  refine ⟨_, pi_list p, fun B σ H G a P Q E r w h k => s B σ H G a _ _ E r w h fun d a' v H' G' h1 e1 r1 x1 => ?_⟩
  cases d with
  | lst ds =>
    obtain ⟨p, vs, rfl, q1, q2⟩ := x1
    exact ⟨p, rfl, ⟨vs, SqL.of (r1.gh _ _ q1)⟩, k _ _ _ _ _ h1 e1 r1 (iter_list q1 q2)⟩
  | _ => exact h1.elim
theorem i_t (a : AE X Z W e f) : AI X Z W tg e (iT f) := by
  obtain ⟨t, p, s⟩ := a.ex
  refine ⟨_, pi_tup p, fun B σ H G a P Q E r w h k => s B σ H G a _ _ E r w h fun d a' v H' G' h1 e1 r1 x1 => ?_⟩
  cases d with
  | tup ds =>
    obtain ⟨p, vs, rfl, q1, q2⟩ := x1
    exact ⟨p, rfl, ⟨vs, SqT.of (r1.gh _ _ q1)⟩, k _ _ _ _ _ h1 e1 r1 (iter_tup q1 q2)⟩
  | _ => exact h1.elim
/-- range(n) -/
def iR (f : FE) : FI := fun E a P => f E a fun d a' => match d with
  | .int n => (-(2 ^ 62) ≤ n ∧ n < 2 ^ 62) ∧ P ((List.range n.toNat).map fun k => D.int (k : Nat)) a'
  | _ => False
theorem i_r (a : AE X Z W e f) (hm : X.mg "range" = none) (hg : Gl X "range") (hs : starEach [e] X.env = (false, eval e X.env) :: starEach [] X.env := by rfl) (hs2 : starEach [e] X.env = [(false, eval e X.env)] := by rfl) : AI X Z W tg (.Call (.Name "range" p) [e] [] pos) (iR f) := by
  obtain ⟨t, p, s⟩ := a.ex
  refine ⟨_, pi_range1 hg hm (pa_cons p pa_nil hs) hs2, fun B σ H G a P Q E r w h k => s B σ H G a _ _ E r w h fun d a' v H' G' h1 e1 r1 x1 => ?_⟩
  cases d with
  | int n =>
    cases x1
    refine ⟨n, rfl, h1.1.1, h1.1.2, k _ _ _ _ _ h1.2 e1 r1 ⟨fun _ => True, YFn fun i => .int (0 + i), ?_, fun _ _ => trivial, fun i H1 x H2 hi e y => ?_⟩⟩
    · rw [List.length_map, List.length_range]; exact walk_range
    · rw [List.length_map, List.length_range] at hi
      refine ⟨.int (i : Nat), by simp [hi], .inl ⟨y.1, ?_⟩⟩
      rw [y.2]
      show V.int (0 + (i : Int)) = V.int (i : Int)
      rw [Int.zero_add]
  | _ => exact h1.elim
/-- reversed(list or tuple) -/
def iV (f : FE) : FI := fun E a P => f E a fun d a' => match d with
  | .tup ds => P ds.reverse a'
  | .lst ds => P ds.reverse a'
  | _ => False
theorem walk_rt {K : PySem.W.Frag} {a : Addr} {xs : List V} : Walk (RT.ItvT K a xs.length) xs.length (fun H => SqT K H a xs) (fun i H x H' => H' = H ∧ xs[xs.length - 1 - i]? = some x) :=
  ⟨fun i _ hi q => ⟨hi, xs, xs[xs.length - 1 - i]'(by omega), q, by simp [show xs.length - 1 - i < xs.length by omega]⟩, fun _ _ => Nat.le_refl _, fun _ _ _ _ _ q y => ⟨y.1, y.2 xs q⟩⟩
theorem rev_at {ds : List D} {i : Nat} {d : D} (hi : i < ds.length) (h : ds[ds.length - 1 - i]? = some d) : ds.reverse[i]? = some d := by
  rw [List.getElem?_reverse hi]; exact h
theorem i_v (a : AE X Z W e f) (hm : X.mg "reversed" = none) (hg : Gl X "reversed") (hs : starEach [e] X.env = (false, eval e X.env) :: starEach [] X.env := by rfl) : AI X Z W tg (.Call (.Name "reversed" p) [e] [] pos) (iV f) := by
  obtain ⟨t, p, s⟩ := a.ex
  refine ⟨_, RT.pi_revA hg hm p hs, fun B σ H G a P Q E r w h k => s B σ H G a _ _ E r w h fun d a' v H' G' h1 e1 r1 x1 => ?_⟩
  cases d with
  | tup ds =>
    obtain ⟨p, vs, rfl, q1, q2⟩ := x1
    refine ⟨p, vs, rfl, .inr ⟨SqT.of (r1.gh _ _ q1), k _ _ _ _ _ h1 e1 r1 ⟨_, _, by rw [List.length_reverse, q2.len]; exact walk_rt, fun H e => SqT.of (e _ _ q1), fun i H1 x H2 hi e y => ?_⟩⟩⟩
    rw [List.length_reverse] at hi
    rw [← q2.len] at y
    obtain ⟨d, h1, h2⟩ := q2.back y.2
    exact ⟨d, rev_at hi h1, .inl ⟨y.1, h2⟩⟩
  | lst ds =>
    obtain ⟨p, vs, rfl, q1, q2⟩ := x1
    refine ⟨p, vs, rfl, .inl ⟨SqL.of (r1.gh _ _ q1), k _ _ _ _ _ h1 e1 r1 ⟨_, _, by rw [List.length_reverse, q2.len]; exact walk_rev, fun H e => SqL.of (e _ _ q1), fun i H1 x H2 hi e y => ?_⟩⟩⟩
    rw [List.length_reverse] at hi
    rw [← q2.len] at y
    obtain ⟨d, h1, h2⟩ := q2.back y.2
    exact ⟨d, rev_at hi h1, .inl ⟨y.1, h2⟩⟩
  | _ => exact h1.elim
/-- enumerate(list or tuple): pairs -/
def numb (ds : List D) : List D := ds.zipIdx.map fun e => .tup [.int (e.2 : Nat), e.1]
theorem numb_len {ds : List D} : (numb ds).length = ds.length := by unfold numb; simp
theorem numb_at {ds : List D} {i : Nat} {d : D} (h : ds[i]? = some d) : (numb ds)[i]? = some (.tup [.int (i : Nat), d]) := by unfold numb; simp [h]
def iE (f : FE) : FI := fun E a P => f E a fun d a' => match d with
  | .tup ds => P (numb ds) a'
  | _ => False
def iEl (f : FE) : FI := fun E a P => f E a fun d a' => match d with
  | .lst ds => P (numb ds) a'
  | _ => False
theorem iter_pair {G : Hp} {ds : List D} {vs : List V} (q2 : Rs G ds vs) {i : Nat} {H1 : Hp} {x : V} {H2 : Hp} (y : YPair (fun i => some (.int (i : Nat))) (fun i => vs[i]?) i H1 x H2) :
    ∃ d, (numb ds)[i]? = some d ∧ ((H2 = H1 ∧ R G d x) ∨ ∃ p o, x = .ref p ∧ H1 p = none ∧ H2 = upd H1 p o ∧ ∀ G1, Ex G G1 → G1 p = none → R (upd G1 p o) d (.ref p)) := by
  obtain ⟨T, x1, y1, rfl, hT, rfl, e1, e2⟩ := y
  obtain ⟨d, h1, h2⟩ := q2.back e2
  cases e1
  exact ⟨_, numb_at h1, .inr ⟨T, _, rfl, hT, rfl, fun G1 eg hn => ⟨T, _, rfl, upd_same, ⟨_, _, rfl, rfl, _, _, rfl, (h2.mono eg).mono (Ex.new hn), rfl⟩⟩⟩⟩
theorem i_e {elts : List Expr} {kk : Nat} {tpos : Pos} (a : AE X Z W e f) (hm : X.mg "enumerate" = none) (hg : Gl X "enumerate") (hs : starEach [e] X.env = (false, eval e X.env) :: starEach [] X.env := by rfl) (hs2 : starEach [e] X.env = [(false, eval e X.env)] := by rfl) :
    AI X Z W (.Tuple elts kk tpos) (.Call (.Name "enumerate" p) [e] [] pos) (iE f) := by
  obtain ⟨t, p, s⟩ := a.ex
  refine ⟨_, pi_enumT hg hm (pa_cons p pa_nil hs) hs2, fun B σ H G a P Q E r w h k => s B σ H G a _ _ E r w h fun d a' v H' G' h1 e1 r1 x1 => ?_⟩
  cases d with
  | tup ds =>
    obtain ⟨p, vs, rfl, q1, q2⟩ := x1
    exact ⟨p, vs, rfl, SqT.of (r1.gh _ _ q1), k _ _ _ _ _ h1 e1 r1 ⟨_, _, by rw [numb_len, q2.len]; exact walk_enumT, fun H e => SqT.of (e _ _ q1), fun i H1 x H2 hi e y => iter_pair q2 y⟩⟩
  | _ => exact h1.elim
theorem i_el {elts : List Expr} {kk : Nat} {tpos : Pos} (a : AE X Z W e f) (hm : X.mg "enumerate" = none) (hg : Gl X "enumerate") (hs : starEach [e] X.env = (false, eval e X.env) :: starEach [] X.env := by rfl) (hs2 : starEach [e] X.env = [(false, eval e X.env)] := by rfl) :
    AI X Z W (.Tuple elts kk tpos) (.Call (.Name "enumerate" p) [e] [] pos) (iEl f) := by
  obtain ⟨t, p, s⟩ := a.ex
  refine ⟨_, pi_enum hg hm (pa_cons p pa_nil hs) hs2, fun B σ H G a P Q E r w h k => s B σ H G a _ _ E r w h fun d a' v H' G' h1 e1 r1 x1 => ?_⟩
  cases d with
  | lst ds =>
    obtain ⟨p, vs, rfl, q1, q2⟩ := x1
    exact ⟨p, vs, rfl, SqL.of (r1.gh _ _ q1), k _ _ _ _ _ h1 e1 r1 ⟨_, _, by rw [numb_len, q2.len]; exact walk_enum, fun H e => SqL.of (e _ _ q1), fun i H1 x H2 hi e y => iter_pair q2 y⟩⟩
  | _ => exact h1.elim
/-! ### loops -/
variable {fi : FI} {fs : FS} {ft : FT} {sts : List Stmt}
/-- a walk over these items -/
def forA (g : FG) (fs : FS) : List D → AEnds → A → Prop
  | [], En, a => En.nx a
  | d :: ds, En, a => g d a fun a1 => fs { En with nx := forA g fs ds En, ct := forA g fs ds En, bk := En.nx } a1
def sFor (fi : FI) (g : FG) (fs : FS) : FS := fun En a => fi En.ex a fun ds a' => forA g fs ds En a'
theorem Rel.here {B : Base} {σ : St} {H G : Hp} {a : A} (r : Rel Z B σ H G a) : Rel Z { B with GK := G } σ H G a :=
  ⟨⟨r.gh, r.g0, r.new, r.dom, r.keep, r.st, r.rn, r.qn, r.tb⟩, r.len, fun i y hi => by
    obtain ⟨v, h1, h2⟩ := r.sl i y hi
    refine ⟨v, h1, ?_⟩
    cases y <;> exact h2, r.dis, Ex.refl _⟩
theorem Rel.there {B : Base} {σ σ1 : St} {H H1 G G1 : Hp} {a a1 : A} (r1 : Rel Z B σ1 H1 G1 a1) (r : Rel Z { B with GK := G1 } σ H G a) : Rel Z B σ H G a :=
  ⟨⟨r.gh, r.g0, r.new, r.dom, r.keep, r.st, r.rn, r.qn, r.tb⟩, r.len, fun i y hi => by
    obtain ⟨v, h1, h2⟩ := r.sl i y hi
    refine ⟨v, h1, ?_⟩
    cases y <;> exact h2, r.dis, r1.gk.trans r.gk⟩
theorem s_for (hp : PassesOwn (model X.prog X.w) X.A X.env X.xe) (hc : X.calm = true) (i : AI X Z W tg e fi) (a : AG X Z tg ws g) (b : ASs X Z W sts fs) (hs : ∀ x, foldedSetIterable e X.env x = pure x := by intro _; rfl) :
    AS X Z W (.For tg e sts [] pos) (sFor fi g fs) := by
  obtain ⟨ti, pi, si⟩ := i.ex
  obtain ⟨ta, pa, sa⟩ := a.ex
  obtain ⟨tb, pb, sb⟩ := b.ex
  refine ⟨_, ps_for hp hc pi pa pb hs, fun B σ H G a Dn En r w k h => si B σ H G a _ _ _ r w h fun ds a1 H1 G1 J h1 e1 r1 it => ?_⟩
  obtain ⟨Gd, Y, wk, gd, yl⟩ := it
  have w1 : WOk Z { B with GK := G1 } W En.ex := fun err σ H G S c d r' h1 h2 => w err σ H G S c d ⟨r'.gh, r'.g0, r'.new, r'.dom, r'.keep, r'.st, r'.rn, r'.qn, r'.tb⟩ h1 h2
  refine for_it wk (fun i σ H => ∃ G a, Rel Z { B with GK := G1 } σ H G a ∧ forA g fs (ds.drop i) En a) ⟨G1, a1, r1.here, h1⟩ (fun i σ H _ ⟨G, a, r, _⟩ => gd H (r.gk.trans r.gh)) ?_ ?_
  · rintro i x σ H H' hi ⟨G, a, r, q⟩ y
    obtain ⟨d, hd, hx⟩ := yl i H x H' hi (r.gk.trans r.gh) y
    have ed : ds.drop i = d :: ds.drop (i + 1) := by
      rw [List.drop_eq_getElem_cons hi]
      congr 1
      exact (List.getElem?_eq_some_iff.mp hd).2
    rw [ed] at q
    have go : ∀ (H2 G2 : Hp) (x : V), Rel Z { B with GK := G1 } σ H2 G2 a → R G2 d x → ta x σ H2 fun σ2 H2 => tb { Dn with nx := fun σ H => ∃ G a, Rel Z { B with GK := G1 } σ H G a ∧ forA g fs (ds.drop (i + 1)) En a, ct := fun σ H => ∃ G a, Rel Z { B with GK := G1 } σ H G a ∧ forA g fs (ds.drop (i + 1)) En a, bk := Dn.nx } σ2 H2 := fun H2 G2 x r2 hv =>
      sa _ σ H2 G2 a d x _ _ r2 hv q fun a3 σ3 q3 r3 _ _ _ => sb _ σ3 H2 G2 a3 _ { En with nx := forA g fs (ds.drop (i + 1)) En, ct := forA g fs (ds.drop (i + 1)) En, bk := En.nx } r3 w1 ⟨fun σ' H' G' a' r' h' => ⟨G', a', r', h'⟩, fun d v σ' H' G' a' r' hv h' => k.rt _ _ _ _ _ _ (r1.there r') hv h', fun σ' H' G' a' r' h' => k.nx _ _ _ _ (r1.there r') h', fun σ' H' G' a' r' h' => ⟨G', a', r', h'⟩⟩ q3
    rcases hx with ⟨rfl, hx⟩ | ⟨p, o, rfl, hp, rfl, hx⟩
    · exact go H' G x r (hx.mono r.gk)
    · exact go _ _ _ (r.known hp) (hx G r.gk (r.gh.free hp))
  · rintro σ H ⟨G, a, r, q⟩
    rw [List.drop_length] at q
    exact k.nx _ _ _ _ (r1.there r) q
/-- while: an invariant by a measure -/
def sWhile (ft : FT) (fs : FS) : FS := fun En a => ∃ I : Nat → A → Prop, (∃ m, I m a) ∧ ∀ m a, I m a → ft En.ex a fun b a1 => if b = true then fs { En with nx := fun a2 => ∃ m', m' < m ∧ I m' a2, ct := fun a2 => ∃ m', m' < m ∧ I m' a2, bk := En.nx } a1 else En.nx a1
theorem s_while (hp : PassesOwn (model X.prog X.w) X.A X.env X.xe) (c : AT X Z W e ft) (b : ASs X Z W sts fs) : AS X Z W (.While e sts [] pos) (sWhile ft fs) := by
  obtain ⟨tc, pc, sc⟩ := c.ex
  obtain ⟨tb, pb, sb⟩ := b.ex
  refine ⟨_, ps_while hp pc pb, fun B σ H G a Dn En r w k h => ?_⟩
  obtain ⟨I, ⟨m, h0⟩, hs⟩ := h
  refine ⟨fun m σ H => ∃ G a, Rel Z B σ H G a ∧ I m a, ⟨m, G, a, r, h0⟩, fun m σ H ⟨G, a, r, q⟩ => sc B σ H G a _ _ _ r w (hs m a q) fun b a1 H1 G1 h1 e1 r1 => ?_⟩
  cases b with
  | true =>
    rw [if_pos rfl] at h1 ⊢
    exact ⟨fun σ' H' => ∃ m', m' < m ∧ ∃ G a, Rel Z B σ' H' G a ∧ I m' a, fun σ' H' ⟨m', l, q⟩ => ⟨m', l, q⟩, sb B σ H1 G1 a1 _ { En with nx := fun a2 => ∃ m', m' < m ∧ I m' a2, ct := fun a2 => ∃ m', m' < m ∧ I m' a2, bk := En.nx } r1 w ⟨fun σ' H' G' a' r' ⟨m', l, q⟩ => ⟨m', l, G', a', r', q⟩, k.rt, k.nx, fun σ' H' G' a' r' ⟨m', l, q⟩ => ⟨m', l, G', a', r', q⟩⟩ h1⟩
  | false =>
    rw [if_neg Bool.false_ne_true] at h1 ⊢
    exact k.nx _ _ _ _ r1 h1
end
end Ab


namespace Ab
open PySem L2
/-! ### stores -/
section
variable {Z : Cl} {B : Base} {σ : St} {H H' G G' : Hp} {a : A} {S S' : Option Stk} {p : Addr} {o o' : HO} {i : Nat} {v : V}
/-- a thing that nobody knows, made since the beginning, and that is not the stack's dict, is written -/
theorem RelS.upo (r : RelS Z B H G S) (h1 : H p = some o) (h2 : G p = none) (h3 : B.H0 p = none) (nq : ∀ q, B.q = some q → ¬ PdOf H q p) : RelS Z B (upd H p o') G S := by
  have n0 : ∀ z, B.H0 z ≠ none → z ≠ p := fun z hz e => hz (by rw [e]; exact h3)
  refine ⟨r.gh.mut h2, r.g0, r.new, fun z hz => ?_, fun z w hz hm => ?_, ?_, fun z hz => ?_, r.qn, fun t ht => ?_⟩
  · rw [upd_ne (n0 z hz)]; exact r.dom z hz
  · rw [upd_ne (n0 z (by rw [hz]; simp))]; exact r.keep z w hz hm
  · have st := r.st
    cases S with
    | none => exact st
    | some S =>
      obtain ⟨q, pd, s1, s2, s3⟩ := st
      have s4 := s2
      obtain ⟨dx, vb, vw, ws, t1, t2, t3, t4, _⟩ := s4
      have n2 : pd ≠ p := fun e => nq q s1 (by rw [← e]; exact s2.pd)
      exact ⟨q, pd, s1, s2.keep (Ex.refl _) (upd_ne (n0 q (r.qn q s1))) (upd_ne n2) t3 t4, s3⟩
  · obtain ⟨s1, s2⟩ := r.rn z hz
    have s4 := s1
    obtain ⟨i0, i1, i3, s, ns, t1, t2, _⟩ := s4
    exact ⟨s1.keep (Ex.refl _) (upd_ne (n0 z s2)) t2, s2⟩
  · obtain ⟨⟨ps, k1, k2⟩, k3, k4⟩ := r.tb t ht
    exact ⟨⟨ps, by rw [upd_ne (n0 t k4)]; exact k1, k2⟩, k3, k4⟩
theorem Rel.upo {x x' : AV} (r : Rel Z B σ H G a) (hi : a.ρ[i]? = some (some x)) (hx : x.owned = true) (hv : σ[i]? = some (some (.ref p))) (h1 : H p = some o) (h2 : G p = none) (h3 : B.H0 p = none) (nq : ∀ q, B.q = some q → ¬ PdOf H q p)
    (hx' : x'.owned = true) (hn : NewR G x' o') : Rel Z B σ (upd H p o') G (a.put i x') := by
  have rs := r.toRelS.upo (o' := o') h1 h2 h3 nq
  have pq : ∀ q z, B.q = some q → PdOf (upd H p o') q z → PdOf H q z := fun q z hq k => by
    obtain ⟨C, dx, fs, k1, k2⟩ := k
    rw [upd_ne (fun e => r.qn q hq (by rw [e]; exact h3))] at k1
    exact ⟨C, dx, fs, k1, k2⟩
  have r2 : Rel Z B σ (upd H p o') G (a.off i) := by
    refine ⟨rs, ?_, fun j y hj => ?_, fun j k p y z hne h1 h2 h3 h4 h5 h6 => ?_, r.gk⟩
    · show σ.length = (a.ρ.set i none).length
      rw [List.length_set]; exact r.len
    · have hj : (a.ρ.set i none)[j]? = some (some y) := hj
      rw [List.getElem?_set] at hj
      by_cases e : i = j
      · rw [if_pos e] at hj
        split at hj <;> cases hj
      · rw [if_neg e] at hj
        obtain ⟨u, u1, u2⟩ := r.sl j y hj
        refine ⟨u, u1, ?_⟩
        cases y with
        | im d => exact u2
        | owl ds' =>
          obtain ⟨p', vs', rfl, w1, w2, w3, w4⟩ := u2
          have hne : p' ≠ p := fun z => r.dis i j p _ _ e hi hx hj rfl hv (by rw [u1, z])
          exact ⟨p', vs', rfl, by rw [upd_ne hne]; exact w1, w2, w3, w4⟩
        | owd ks =>
          obtain ⟨p', vs', rfl, w1, w2, w3, w4, w5⟩ := u2
          have hne : p' ≠ p := fun z => r.dis i j p _ _ e hi hx hj rfl hv (by rw [u1, z])
          exact ⟨p', vs', rfl, by rw [upd_ne hne]; exact w1, w2, w3, w4, fun q hq k => w5 q hq (pq q _ hq k)⟩
        | stk => exact u2
        | rng => exact u2
        | kept ws ks => exact kept_mono u2 (Ex.refl _) rfl rfl
    · have h1 : (a.ρ.set i none)[j]? = some (some y) := h1
      have h3 : (a.ρ.set i none)[k]? = some (some z) := h3
      rw [List.getElem?_set] at h1 h3
      by_cases ej : i = j
      · rw [if_pos ej] at h1
        split at h1 <;> cases h1
      · rw [if_neg ej] at h1
        by_cases ek : i = k
        · rw [if_pos ek] at h3
          split at h3 <;> cases h3
        · rw [if_neg ek] at h3
          exact r.dis j k p y z hne h1 h2 h3 h4 h5 h6
  have q := r2.set (i := i) (x := x') (v := .ref p) ?_ ?_
  · rw [set_self hv] at q
    have e : (a.off i).put i x' = a.put i x' := by
      show A.mk ((a.ρ.set i none).set i _) a.S = A.mk (a.ρ.set i _) a.S
      rw [List.set_set]
    rw [e] at q
    exact q
  · cases x' with
    | owl ds => cases o' with
      | lst vs => exact ⟨p, vs, rfl, upd_same, h2, h3, hn⟩
      | _ => exact hn.elim
    | owd ks => cases o' with
      | dK ws => exact ⟨p, ws, rfl, upd_same, h2, h3, hn, fun q hq k => nq q hq (pq q _ hq k)⟩
      | _ => exact hn.elim
    | _ => cases hx'
  · intro _ j p' y hne hj hy e h6
    cases e
    have hj : (a.ρ.set i none)[j]? = some (some y) := hj
    rw [List.getElem?_set_ne hne] at hj
    exact r.dis i j p x y hne hi hx hj hy hv h6
/-- the stack's fields are written -/
theorem RelS.stk {q pd dx : Addr} {fs : List (Str × V)} {S1 : Stk} (r : RelS Z B H G S) (hq : B.q = some q) (gq : G q = none) (hH : H q ≠ none) (hS : StkAt Z.stack (upd H q (.ins Z.stack dx fs)) G q pd S1) (hp : pd = B.pd0 ∨ B.H0 pd = none) (nr : ∀ z, B.r = some z → z ≠ q) (nt : ∀ t, t ∈ Z.tabs → t ≠ q) : RelS Z B (upd H q (.ins Z.stack dx fs)) G (some S1) := by
  refine ⟨r.gh.mut gq, r.g0, r.new, fun z hz => ?_, fun z w hz hm => ?_, ⟨q, pd, hq, hS, hp⟩, fun z hz => ?_, r.qn, fun t ht => ?_⟩
  · by_cases e : z = q
    · rw [e, upd_same]; simp
    · rw [upd_ne e]; exact r.dom z hz
  · have e : z ≠ q := fun e => hm (.inl (by rw [e]; exact hq))
    rw [upd_ne e]; exact r.keep z w hz hm
  · obtain ⟨s1, s2⟩ := r.rn z hz
    have s4 := s1
    obtain ⟨i0, i1, i3, s, ns, t1, t2, _⟩ := s4
    exact ⟨s1.keep (Ex.refl _) (upd_ne (nr z hz)) t2, s2⟩
  · obtain ⟨⟨ps, k1, k2⟩, k3, k4⟩ := r.tb t ht
    exact ⟨⟨ps, by rw [upd_ne (nt t ht)]; exact k1, k2⟩, k3, k4⟩
/-- the stack's dict is written -/
theorem RelS.pat {q pd : Addr} {ws : List (Key × V)} {S1 : Stk} (r : RelS Z B H G S) (hq : B.q = some q) (gp : G pd = none) (hH : H pd ≠ none) (hS : StkAt Z.stack (upd H pd (.dK ws)) G q pd S1) (hp : pd = B.pd0 ∨ B.H0 pd = none) (nr : ∀ z, B.r = some z → z ≠ pd) (nt : ∀ t, t ∈ Z.tabs → t ≠ pd) : RelS Z B (upd H pd (.dK ws)) G (some S1) := by
  refine ⟨r.gh.mut gp, r.g0, r.new, fun z hz => ?_, fun z w hz hm => ?_, ⟨q, pd, hq, hS, hp⟩, fun z hz => ?_, r.qn, fun t ht => ?_⟩
  · by_cases e : z = pd
    · rw [e, upd_same]; simp
    · rw [upd_ne e]; exact r.dom z hz
  · have e : z ≠ pd := fun e => by
      rcases hp with hp | hp
      · exact hm (.inr (.inl ⟨by rw [hq]; simp, by rw [e, hp]⟩))
      · rw [e, hp] at hz; cases hz
    rw [upd_ne e]; exact r.keep z w hz hm
  · obtain ⟨s1, s2⟩ := r.rn z hz
    have s4 := s1
    obtain ⟨i0, i1, i3, s, ns, t1, t2, _⟩ := s4
    exact ⟨s1.keep (Ex.refl _) (upd_ne (nr z hz)) t2, s2⟩
  · obtain ⟨⟨ps, k1, k2⟩, k3, k4⟩ := r.tb t ht
    exact ⟨⟨ps, by rw [upd_ne (nt t ht)]; exact k1, k2⟩, k3, k4⟩
/-- slots stay where only the stack is written -/
theorem Rel.slots {z : Addr} (r : Rel Z B σ H G a) (x : RelS Z B (upd H z o) G S') (hz : ∀ (j : Nat) (y : AV), a.ρ[j]? = some (some y) → y.owned = true → σ[j]? ≠ some (some (.ref z))) (pq : ∀ (q p' : Addr), B.q = some q → (∃ (j : Nat) (ks : List (Str × D)), a.ρ[j]? = some (some (.owd ks)) ∧ σ[j]? = some (some (.ref p'))) → PdOf (upd H z o) q p' → PdOf H q p') : Rel Z B σ (upd H z o) G ⟨a.ρ, S'⟩ := by
  refine ⟨x, r.len, fun i y hi => ?_, r.dis, r.gk⟩
  obtain ⟨v, h1, h2⟩ := r.sl i y hi
  refine ⟨v, h1, ?_⟩
  cases y with
  | im d => exact h2
  | owl ds =>
    obtain ⟨p, vs, rfl, w1, w2, w3, w4⟩ := h2
    have hne : p ≠ z := fun e => hz i _ hi rfl (by rw [h1, e])
    exact ⟨p, vs, rfl, by rw [upd_ne hne]; exact w1, w2, w3, w4⟩
  | owd ks =>
    obtain ⟨p, vs, rfl, w1, w2, w3, w4, w5⟩ := h2
    have hne : p ≠ z := fun e => hz i _ hi rfl (by rw [h1, e])
    exact ⟨p, vs, rfl, by rw [upd_ne hne]; exact w1, w2, w3, w4, fun q hq k => w5 q hq (pq q p hq ⟨i, ks, hi, h1⟩ k)⟩
  | stk => exact h2
  | rng => exact h2
  | kept ws ks => exact kept_mono h2 (Ex.refl _) rfl rfl
theorem Rel.at (r : Rel Z B σ H G a) {S : Stk} (hS : a.S = some S) : ∃ q pd dx vb vw ws, B.q = some q ∧ H q = some (.ins Z.stack dx (flds vb vw (.ref pd) S.many)) ∧ H pd = some (.dK ws) ∧ G q = none ∧ G pd = none ∧ R G S.base vb ∧ R G S.words vw ∧ Rk G S.patches ws ∧ (pd = B.pd0 ∨ B.H0 pd = none) ∧
    (∀ z, B.r = some z → z ≠ q ∧ z ≠ pd) ∧ (∀ (j : Nat) (y : AV), a.ρ[j]? = some (some y) → y.owned = true → σ[j]? ≠ some (some (.ref q)) ∧ σ[j]? ≠ some (some (.ref pd))) ∧ q ≠ pd ∧ (∀ t, t ∈ Z.tabs → t ≠ q ∧ t ≠ pd) := by
  have st := r.st
  rw [hS] at st
  obtain ⟨q, pd, s1, s2, s3⟩ := st
  have s4 := s2
  obtain ⟨dx, vb, vw, ws, t1, t2, t3, t4, t5, t6, t7⟩ := s4
  refine ⟨q, pd, dx, vb, vw, ws, s1, t1, t2, t3, t4, t5, t6, t7, s3, fun z hz => ?_, fun j y hj hy => ?_, ne_of t1 t2 (by intro z; cases z), fun t ht => ?_⟩
  · obtain ⟨k1, k2⟩ := r.rn z hz
    obtain ⟨i0, i1, i3, s, ns, k3, _⟩ := k1
    exact ⟨ne_of k3 t1 (by intro z; cases z), ne_of k3 t2 (by intro z; cases z)⟩
  · obtain ⟨u, u1, u2⟩ := r.sl j y hj
    rw [u1]
    cases y with
    | owl ds =>
      obtain ⟨p', vs', rfl, w1, _⟩ := u2
      constructor
      · intro e; cases e; rw [t1] at w1; cases w1
      · intro e; cases e; rw [t2] at w1; cases w1
    | owd ds =>
      obtain ⟨p', vs', rfl, w1, _, _, _, w5⟩ := u2
      constructor
      · intro e; cases e; rw [t1] at w1; cases w1
      · intro e; cases e; exact w5 q s1 s2.pd
    | _ => cases hy
  · obtain ⟨⟨ps, k1, _⟩, _⟩ := r.tb t ht
    exact ⟨ne_of k1 t1 (by intro z; cases z), ne_of k1 t2 (by intro z; cases z)⟩
/-- a field but the dict -/
def Stk.set (S : Stk) (d : D) : Fd → Option Stk
  | .base => some { S with base := d }
  | .words => some { S with words := d }
  | .many => match d with
    | .int m => some { S with many := m }
    | _ => none
theorem Rel.fld {S S1 : Stk} {x : Fd} {d : D} {q pd dx : Addr} {vb vw : V} (r : Rel Z B σ H G a) (hS : a.S = some S) (hq : B.q = some q) (hH : H q = some (.ins Z.stack dx (flds vb vw (.ref pd) S.many))) (hv : R G d v) (h1 : S.set d x = some S1) :
    Rel Z B σ (upd H q (.ins Z.stack dx (putF x.name v (flds vb vw (.ref pd) S.many)))) G ⟨a.ρ, some S1⟩ := by
  obtain ⟨q', pd', dx', vb', vw', ws, k0, k1, k2, k3, k4, k5, k6, k7, k8, k9, k10, k11, k12⟩ := r.at hS
  rw [hq] at k0; cases k0
  rw [hH] at k1
  have e : dx = dx' ∧ vb = vb' ∧ vw = vw' ∧ pd = pd' := by
    simp only [Option.some.injEq, HO.ins.injEq, flds, List.cons.injEq, Prod.mk.injEq, V.ref.injEq, true_and, and_true] at k1
    exact ⟨k1.1, k1.2.1, k1.2.2.1, k1.2.2.2⟩
  obtain ⟨rfl, rfl, rfl, rfl⟩ := e
  have f0 : putF ("base" : Str) v (flds vb vw (.ref pd) S.many) = flds v vw (.ref pd) S.many := rfl
  have f1 : putF ("words" : Str) v (flds vb vw (.ref pd) S.many) = flds vb v (.ref pd) S.many := rfl
  have f2 : putF ("many" : Str) v (flds vb vw (.ref pd) S.many) = ([("base", vb), ("words", vw), ("patches", .ref pd), ("many", v)] : List (Str × V)) := rfl
  have fin : ∀ vb1 vw1, putF x.name v (flds vb vw (.ref pd) S.many) = flds vb1 vw1 (.ref pd) S1.many → R G S1.base vb1 → R G S1.words vw1 → S1.patches = S.patches → Rel Z B σ (upd H q (.ins Z.stack dx (putF x.name v (flds vb vw (.ref pd) S.many)))) G ⟨a.ρ, some S1⟩ := fun vb1 vw1 e1 e2 e3 e4 => by
    rw [e1]
    refine r.slots (r.toRelS.stk hq k3 (by rw [hH]; simp) ⟨dx, vb1, vw1, ws, upd_same, by rw [upd_ne k11.symm]; exact k2, k3, k4, e2, e3, by rw [e4]; exact k7⟩ k8 (fun z hz => (k9 z hz).1) fun t ht => (k12 t ht).1) (fun j y hj hy => (k10 j y hj hy).1) fun q2 p' hq2 _ k => ?_
    rw [hq] at hq2; cases hq2
    obtain ⟨C, dx2, fs, l1, l2⟩ := k
    rw [upd_same] at l1
    cases l1
    exact ⟨_, _, _, hH, l2⟩
  cases x with
  | base => cases h1; exact fin v vw f0 hv k6 rfl
  | words => cases h1; exact fin vb v f1 k5 hv rfl
  | many => cases d with
    | int m => cases h1; cases hv; exact fin vb vw f2 k5 k6 rfl
    | _ => cases h1
/-- the dict's entry -/
theorem Rel.pput {S : Stk} {k : Str} {d : D} {q pd dx : Addr} {vb vw : V} {ws : List (Key × V)} (r : Rel Z B σ H G a) (hS : a.S = some S) (hq : B.q = some q) (hH : H q = some (.ins Z.stack dx (flds vb vw (.ref pd) S.many))) (hP : H pd = some (.dK ws)) (hv : R G d v) :
    Rel Z B σ (upd H pd (.dK (putK ws (Sum.inr k) v))) G ⟨a.ρ, some { S with patches := putD S.patches k d }⟩ := by
  obtain ⟨q', pd', dx', vb', vw', ws', k0, k1, k2, k3, k4, k5, k6, k7, k8, k9, k10, k11, k12⟩ := r.at hS
  rw [hq] at k0; cases k0
  rw [hH] at k1
  have e : dx = dx' ∧ vb = vb' ∧ vw = vw' ∧ pd = pd' := by
    simp only [Option.some.injEq, HO.ins.injEq, flds, List.cons.injEq, Prod.mk.injEq, V.ref.injEq, true_and, and_true] at k1
    exact ⟨k1.1, k1.2.1, k1.2.2.1, k1.2.2.2⟩
  obtain ⟨rfl, rfl, rfl, rfl⟩ := e
  rw [hP] at k2; cases k2
  refine r.slots (r.toRelS.pat hq k4 (by rw [hP]; simp) ⟨dx, vb, vw, _, by rw [upd_ne k11]; exact hH, upd_same, k3, k4, k5, k6, k7.put hv⟩ k8 (fun z hz => (k9 z hz).2) fun t ht => (k12 t ht).2) (fun j y hj hy => (k10 j y hj hy).2) fun q2 p' hq2 _ k => ?_
  rw [hq] at hq2; cases hq2
  obtain ⟨C, dx2, fs, l1, l2⟩ := k
  rw [upd_ne k11] at l1
  exact ⟨C, dx2, fs, l1, l2⟩
/-- a new dict for the stack: at p, which is one's own in slot i (given away), or new -/
theorem Rel.pnew {S : Stk} {ks : List (Str × D)} {q pd dx : Addr} {vb vw : V} {ws : List (Key × V)} (r : Rel Z B σ H G a) (hS : a.S = some S) (hq : B.q = some q) (hH : H q = some (.ins Z.stack dx (flds vb vw (.ref pd) S.many))) (h1 : H p = some (.dK ws)) (h2 : G p = none) (h3 : B.H0 p = none) (hk : Rk G ks ws)
    (hz : ∀ (j : Nat) (y : AV), a.ρ[j]? = some (some y) → y.owned = true → σ[j]? ≠ some (some (.ref p))) :
    Rel Z B σ (upd H q (.ins Z.stack dx (putF "patches" (.ref p) (flds vb vw (.ref pd) S.many)))) G ⟨a.ρ, some { S with patches := ks }⟩ := by
  obtain ⟨q', pd', dx', vb', vw', ws', k0, k1, k2, k3, k4, k5, k6, k7, k8, k9, k10, k11, k12⟩ := r.at hS
  rw [hq] at k0; cases k0
  rw [hH] at k1
  have e : dx = dx' ∧ vb = vb' ∧ vw = vw' ∧ pd = pd' := by
    simp only [Option.some.injEq, HO.ins.injEq, flds, List.cons.injEq, Prod.mk.injEq, V.ref.injEq, true_and, and_true] at k1
    exact ⟨k1.1, k1.2.1, k1.2.2.1, k1.2.2.2⟩
  obtain ⟨rfl, rfl, rfl, rfl⟩ := e
  have f0 : putF ("patches" : Str) (.ref p) (flds vb vw (.ref pd) S.many) = flds vb vw (.ref p) S.many := rfl
  rw [f0]
  have npq : p ≠ q := ne_of h1 hH (by intro z; cases z)
  refine r.slots (r.toRelS.stk hq k3 (by rw [hH]; simp) ⟨dx, vb, vw, ws, upd_same, by rw [upd_ne npq]; exact h1, k3, h2, k5, k6, hk⟩ (.inr h3) (fun z hz => (k9 z hz).1) fun t ht => (k12 t ht).1) (fun j y hj hy => (k10 j y hj hy).1) fun q2 p' hq2 hj k => ?_
  rw [hq] at hq2; cases hq2
  obtain ⟨C, dx2, fs, l1, l2⟩ := k
  rw [upd_same] at l1
  cases l1
  have l2 : some (V.ref p) = some (.ref p') := l2
  cases l2
  obtain ⟨j, ks', j1, j2⟩ := hj
  exact absurd j2 (hz j _ j1 rfl)
end
end Ab


namespace Ab
open PySem L2
section
variable {X : Cx} {Z : Cl} {W : WX} {e e1 e2 e3 : Expr} {es : List Expr} {f g h : FE} {fn : FN} {fa : FA} {u w : FQ} {pos pos' apos p p2 : Pos} {i j : Nat} {x y : Str}
/-- x.append(e), x one's own -/
def sApp (i : Nat) (f : FE) : FS := fun En a => match a.ρ[i]? with
  | some (some (.owl _)) => f En.ex a fun d a1 => match a1.ρ[i]? with
    | some (some (.owl ds)) => ds.length < sizeLine ∧ En.nx (a1.put i (.owl (ds ++ [d])))
    | _ => False
  | _ => False
theorem s_app (i : Nat) (a : AE X Z W e f) (hN : X.N[i]? = some x := by rfl) (hv : Vis X.env.scope x := by first | exact Or.inl rfl | exact Or.inr (Or.inl rfl) | exact Or.inr (Or.inr rfl)) (hd : (x == ("__debug__" : Str)) = false := by decide) (hcd : (x == ("__classdict__" : Str)) = false := by decide)
    (hbase : attributeBase (.Name x p2) "append" X.env (eval (.Name x p2) X.env) = eval (.Name x p2) X.env := by rfl)
    (hfew : ((backTo p (starEach [e] X.env)).all (fun z => !z.1) && (backToKw p (keywordEach [] X.env)).all (fun z => z.1.isSome) && decide ([e].length + ([] : List Keyword).length + (if ([] : List Keyword).isEmpty then 0 else 1) < 30)) = true := by rfl)
    (hline : (apos.endLine == p.line) = true := by rfl) (hs : starEach [e] X.env = (false, eval e X.env) :: starEach [] X.env := by rfl) (hplain : (backTo p (starEach [] X.env)).any (·.1) = false := by rfl)
    (hsw : swapsWith (.Call (.Attribute (.Name x p2) "append" apos) [e] [] p) none pos.line X.env = pure false := by rfl) :
    AS X Z W (.Expr (.Call (.Attribute (.Name x p2) "append" apos) [e] [] p) pos) (sApp i f) := by
  obtain ⟨t, pa, sa⟩ := a.ex
  refine ⟨_, ps_expr (pe_bm PySem.F.plainAttrs_list PySem.F.slot_list_append PySem.F.type_list_append mt_append (pe_var hN hv hd hcd) (pa_cons pa pa_nil hs) hbase hfew hline hs hplain) hsw, fun B σ H G a Dn En r w k h => ?_⟩
  unfold sApp at h
  split at h
  · rename_i ds0 hi0
    obtain ⟨v, h1, p, vs0, rfl, h3, h4, h5, h6⟩ := r.sl i _ hi0
    refine ⟨_, h1, .inl ⟨rfl, vs0, SqL.of h3⟩, sa B σ H G a _ _ _ r w h fun d a1 v1 H1 G1 q1 e1 r1 x1 => ?_⟩
    split at q1
    · rename_i ds hi
      obtain ⟨v2, k1, p', vs, rfl, k3, k4, k5, k6⟩ := r1.sl i _ hi
      rw [h1] at k1
      cases k1
      refine ⟨p, vs, v1, rfl, rfl, k3, by rw [← k6.len]; exact q1.1, k.nx _ _ _ _ (r1.upo hi rfl h1 k3 k4 k5 (r1.npd k3) rfl (show NewR G1 (.owl (ds ++ [d])) (.lst (vs ++ [v1])) from k6.app (Rs.one x1))) q1.2⟩
    · exact q1.elim
  · exact h.elim
/-- x[k] = e, x one's own list -/
def sSetL (i : Nat) (u : FQ) (f : FE) : FS := fun En a => f En.ex a fun d a1 => match a1.ρ[i]? with
  | some (some (.owl ds)) => u a1 fun y => match y with
    | .int k => ∃ j, ixN ds.length k = some j ∧ En.nx (a1.put i (.owl (ds.set j d)))
    | _ => False
  | _ => False
theorem s_setL (i : Nat) (b : AQ X Z e2 u) (a : AE X Z W e f) (hN : X.N[i]? = some x := by rfl) (hv : Vis X.env.scope x := by first | exact Or.inl rfl | exact Or.inr (Or.inl rfl) | exact Or.inr (Or.inr rfl)) (hd : (x == ("__debug__" : Str)) = false := by decide) (hcd : (x == ("__classdict__" : Str)) = false := by decide)
    (ha : ∀ v, assign (.Subscript (.Name x p2) e2 pos') X.env v = (do let ov ← holding [v] (eval (.Name x p2) X.env); let iv ← holding [v, ov] (eval e2 X.env); standAt pos'; holding [v, ov, iv] (setItem ov iv v); release [v, ov, iv] []) := by intro _; rfl)
    (hs : swapsWithSole [.Subscript (.Name x p2) e2 pos'] e pos.line X.env = pure false := by rfl) (hw : swappedStores [.Subscript (.Name x p2) e2 pos'] e X.env = pure none := by rfl)
    (h1 : (assignEach [.Subscript (.Name x p2) e2 pos'] X.env).map (·.2) = [assign (.Subscript (.Name x p2) e2 pos') X.env] := by rfl) : AS X Z W (.Assign [.Subscript (.Name x p2) e2 pos'] e pos) (sSetL i u f) := by
  obtain ⟨t, pa, sa⟩ := a.ex
  obtain ⟨tb, pb, sb⟩ := b.ex
  refine ⟨_, ps_asg pa (pg_sub (pe_var hN hv hd hcd) pb set_list ha) hs hw h1, fun B σ H G a Dn En r w k h => sa B σ H G a _ _ _ r w h fun d a1 v H1 G1 q1 e1 r1 x1 => ?_⟩
  split at q1
  · rename_i ds hi
    obtain ⟨v2, k1, p', vs, rfl, k3, k4, k5, k6⟩ := r1.sl i _ hi
    refine ⟨_, k1, sb B σ H1 G1 a1 _ _ r1 q1 fun y z q2 y1 => ?_⟩
    cases y with
    | int n =>
      obtain ⟨j, hj, q2⟩ := q2
      exact ⟨p', vs, n, j, rfl, y1, k3, by rw [← k6.len]; exact hj, k.nx _ _ _ _ (r1.upo hi rfl k1 k3 k4 k5 (r1.npd k3) rfl (show NewR G1 (.owl (ds.set j d)) (.lst (vs.set j v)) from k6.set x1 j)) q2⟩
    | _ => exact q2.elim
  · exact q1.elim
/-- x[k] = e, x one's own dict -/
def sPutD (i : Nat) (u : FQ) (f : FE) : FS := fun En a => f En.ex a fun d a1 => match a1.ρ[i]? with
  | some (some (.owd ks)) => u a1 fun y => match y with
    | .str k => ks.length < sizeLine ∧ En.nx (a1.put i (.owd (putD ks k d)))
    | _ => False
  | _ => False
theorem s_putD (i : Nat) (hu : X.A.units + 1 < cLine) (b : AQ X Z e2 u) (a : AE X Z W e f) (hN : X.N[i]? = some x := by rfl) (hv : Vis X.env.scope x := by first | exact Or.inl rfl | exact Or.inr (Or.inl rfl) | exact Or.inr (Or.inr rfl)) (hd : (x == ("__debug__" : Str)) = false := by decide) (hcd : (x == ("__classdict__" : Str)) = false := by decide)
    (hs : swapsWith e (some (.Subscript (.Name x p2) e2 pos')) pos.line X.env = pure false := by rfl) : AS X Z W (.Assign [.Subscript (.Name x p2) e2 pos'] e pos) (sPutD i u f) := by
  obtain ⟨t, pa, sa⟩ := a.ex
  obtain ⟨tb, pb, sb⟩ := b.ex
  refine ⟨_, ps_dput hu (pe_var hN hv hd hcd) pb pa hs, fun B σ H G a Dn En r w k h => sa B σ H G a _ _ _ r w h fun d a1 v H1 G1 q1 e1 r1 x1 => ?_⟩
  split at q1
  · rename_i ks hi
    obtain ⟨v2, k1, p', vs, rfl, k3, k4, k5, k6, k7⟩ := r1.sl i _ hi
    refine ⟨_, k1, sb B σ H1 G1 a1 _ _ r1 q1 fun y z q2 y1 => ?_⟩
    cases y with
    | str n =>
      cases y1
      exact ⟨p', _, rfl, DPut.k (k := Sum.inr n) k3 (by rw [← k6.len]; exact q2.1), k.nx _ _ _ _ (r1.upo hi rfl k1 k3 k4 k5 k7 rfl (show NewR G1 (.owd (putD ks n d)) (.dK (putK vs (Sum.inr n) v)) from k6.put x1)) q2.2⟩
    | _ => exact q2.elim
  · exact q1.elim
/-- self.patches[k] = e -/
def sPutP (i : Nat) (u : FQ) (f : FE) : FS := fun En a => f En.ex a fun d a1 => match a1.ρ[i]?, a1.S with
  | some (some .stk), some S => u a1 fun y => match y with
    | .str k => S.patches.length < sizeLine ∧ En.nx ⟨a1.ρ, some { S with patches := putD S.patches k d }⟩
    | _ => False
  | _, _ => False
theorem s_putP (i : Nat) {p3 : Pos} (T : StkTxt X.K Z) (hu : X.A.units + 1 < cLine) (b : AQ X Z e2 u) (a : AE X Z W e f) (hN : X.N[i]? = some x := by rfl) (hv : Vis X.env.scope x := by first | exact Or.inl rfl | exact Or.inr (Or.inl rfl) | exact Or.inr (Or.inr rfl)) (hd : (x == ("__debug__" : Str)) = false := by decide) (hcd : (x == ("__classdict__" : Str)) = false := by decide)
    (hb : attributeBase (.Name x p2) "patches" X.env (eval (.Name x p2) X.env) = eval (.Name x p2) X.env := by rfl)
    (hs : swapsWith e (some (.Subscript (.Attribute (.Name x p2) "patches" p3) e2 pos')) pos.line X.env = pure false := by rfl) : AS X Z W (.Assign [.Subscript (.Attribute (.Name x p2) "patches" p3) e2 pos'] e pos) (sPutP i u f) := by
  obtain ⟨t, pa, sa⟩ := a.ex
  obtain ⟨tb, pb, sb⟩ := b.ex
  refine ⟨_, ps_dput hu (pe_fld (pe_var hN hv hd hcd) hb) pb pa hs, fun B σ H G a Dn En r w k h => sa B σ H G a _ _ _ r w h fun d a1 v H1 G1 q1 e1 r1 x1 => ?_⟩
  split at q1
  · rename_i S hi hS
    obtain ⟨v2, k1, q, k2, rfl⟩ := r1.sl i _ hi
    obtain ⟨q', pd, dx, vb, vw, ws, c1, c2, c3, c4, c5, c6, c7, c8, c9, c10, c11, c12, c13⟩ := r1.at hS
    rw [k2] at c1; cases c1
    refine ⟨_, k1, q, Z.stack, dx, _, _, rfl, c2, T.cl, T.np, flds_at.2.2.1, sb B σ H1 G1 a1 _ _ r1 q1 fun y z q2 y1 => ?_⟩
    cases y with
    | str n =>
      cases y1
      exact ⟨pd, _, rfl, DPut.k (k := Sum.inr n) c3 (by rw [← c8.len]; exact q2.1), k.nx _ _ _ _ (r1.pput hS k2 c2 c3 x1) q2.2⟩
    | _ => exact q2.elim
  · exact q1.elim
/-- self.f = e -/
def sFld (i : Nat) (x : Fd) (f : FE) : FS := fun En a => f En.ex a fun d a1 => match a1.ρ[i]?, a1.S with
  | some (some .stk), some S => ∃ S1, S.set d x = some S1 ∧ En.nx ⟨a1.ρ, some S1⟩
  | _, _ => False
theorem s_fld (i : Nat) (z : Fd) {fn : Str} (T : StkTxt X.K Z) (a : AE X Z W e f) (hz : fn = z.name := by rfl) (hN : X.N[i]? = some x := by rfl) (hv : Vis X.env.scope x := by first | exact Or.inl rfl | exact Or.inr (Or.inl rfl) | exact Or.inr (Or.inr rfl)) (hd : (x == ("__debug__" : Str)) = false := by decide) (hcd : (x == ("__classdict__" : Str)) = false := by decide)
    (hs : swapsWith e (some (.Attribute (.Name x p2) fn pos')) pos.line X.env = pure false := by rfl) : AS X Z W (.Assign [.Attribute (.Name x p2) fn pos'] e pos) (sFld i z f) := by
  obtain ⟨t, pa, sa⟩ := a.ex
  refine ⟨_, ps_fld (pe_var hN hv hd hcd) pa hs, fun B σ H G a Dn En r w k h => sa B σ H G a _ _ _ r w h fun d a1 v H1 G1 q1 e1 r1 x1 => ?_⟩
  subst hz
  split at q1
  · rename_i S hi hS
    obtain ⟨v2, k1, q, k2, rfl⟩ := r1.sl i _ hi
    obtain ⟨q', pd, dx, vb, vw, ws, c1, c2, c3, c4, c5, c6, c7, c8, c9, c10, c11, c12, c13⟩ := r1.at hS
    rw [k2] at c1; cases c1
    obtain ⟨S1, hS1, q2⟩ := q1
    exact ⟨_, k1, q, Z.stack, dx, _, rfl, c2, T.cl, T.no z, (by show 4 < 1000; decide), k.nx _ _ _ _ (r1.fld hS k2 c2 x1 hS1) q2⟩
  · exact q1.elim
/-- self.patches = (a new dict) -/
def sFldP (i : Nat) (f : FN) : FS := fun En a => f En.ex a fun n a1 => match n, a1.ρ[i]?, a1.S with
  | .owd ks, some (some .stk), some S => En.nx ⟨a1.ρ, some { S with patches := ks }⟩
  | _, _, _ => False
theorem s_fldP (i : Nat) (T : StkTxt X.K Z) (a : AN X Z W e fn) (hN : X.N[i]? = some x := by rfl) (hv : Vis X.env.scope x := by first | exact Or.inl rfl | exact Or.inr (Or.inl rfl) | exact Or.inr (Or.inr rfl)) (hd : (x == ("__debug__" : Str)) = false := by decide) (hcd : (x == ("__classdict__" : Str)) = false := by decide)
    (hs : swapsWith e (some (.Attribute (.Name x p2) "patches" pos')) pos.line X.env = pure false := by rfl) : AS X Z W (.Assign [.Attribute (.Name x p2) "patches" pos'] e pos) (sFldP i fn) := by
  obtain ⟨t, pa, sa⟩ := a.ex
  refine ⟨_, ps_fld (pe_var hN hv hd hcd) pa hs, fun B σ H G a Dn En r w k h => sa B σ H G a _ _ _ r w h fun n a1 p o H1 G1 q1 e1 r1 hp hn => ?_⟩
  split at q1
  · rename_i ks S hi hS
    cases o with
    | dK ws' =>
      obtain ⟨v2, k1, q, k2, rfl⟩ := r1.sl i _ hi
      have r2 := r1.unknown (o := .dK ws') hp
      obtain ⟨q', pd, dx, vb, vw, ws, c1, c2, c3, c4, c5, c6, c7, c8, c9, c10, c11, c12, c13⟩ := r2.at hS
      rw [k2] at c1; cases c1
      have hp0 : B.H0 p = none := by
        cases q : B.H0 p with
        | none => rfl
        | some w => exact absurd hp (r1.dom p (by rw [q]; simp))
      refine ⟨_, k1, q, Z.stack, dx, _, rfl, c2, T.cl, T.np, (by show 4 < 1000; decide), k.nx _ _ _ _ (r2.pnew hS k2 c2 upd_same (r1.gh.free hp) hp0 hn fun j y hj hy hz => ?_) q1⟩
      obtain ⟨u, u1, u2⟩ := r1.sl j y hj
      rw [u1] at hz
      cases hz
      cases y with
      | owl ds => obtain ⟨p', vs', e, w1, _⟩ := u2; cases e; rw [hp] at w1; cases w1
      | owd ds => obtain ⟨p', vs', e, w1, _⟩ := u2; cases e; rw [hp] at w1; cases w1
      | _ => cases hy
    | _ => exact hn.elim
  · exact q1.elim
/-- self.many += e, -= e -/
def sInc (i : Nat) (g : Int → Int → Int) (u : FQ) : FS := fun En a => match a.ρ[i]?, a.S with
  | some (some .stk), some S => u a fun y => match y with
    | .int n => En.nx ⟨a.ρ, some { S with many := g S.many n }⟩
    | _ => False
  | _, _ => False
theorem s_incG (i : Nat) {op : Operator} {gi : Int → Int → Int} {rd : V → V → Hp → VK → Prop} (T : StkTxt X.K Z) (b : AQ X Z e u) (ho : InOp X op rd) (hrd : ∀ a b H Q, Q (.int (gi a b)) H → rd (.int a) (.int b) H Q) (hN : X.N[i]? = some x := by rfl)
    (hv : Vis X.env.scope x := by first | exact Or.inl rfl | exact Or.inr (Or.inl rfl) | exact Or.inr (Or.inr rfl)) (hd : (x == ("__debug__" : Str)) = false := by decide) (hcd : (x == ("__classdict__" : Str)) = false := by decide) : AS X Z W (.AugAssign (.Attribute (.Name x p2) "many" pos') op e pos) (sInc i gi u) := by
  obtain ⟨tb, pb, sb⟩ := b.ex
  refine ⟨_, ps_fldaug (pe_var hN hv hd hcd) pb ho, fun B σ H G a Dn En r w k h => ?_⟩
  unfold sInc at h
  split at h
  · rename_i S hi hS
    obtain ⟨v2, k1, q, k2, rfl⟩ := r.sl i _ hi
    obtain ⟨q', pd, dx, vb, vw, ws, c1, c2, c3, c4, c5, c6, c7, c8, c9, c10, c11, c12, c13⟩ := r.at hS
    rw [k2] at c1; cases c1
    refine ⟨_, k1, q, Z.stack, dx, _, _, rfl, c2, T.cl, T.nm, flds_at.2.2.2, sb B σ H G a _ _ r h fun y z q2 y1 => ?_⟩
    cases y with
    | int n =>
      cases y1
      exact hrd _ _ _ _ ⟨dx, _, c2, (by show 4 < 1000; decide), k.nx _ _ _ _ (r.fld (x := .many) (d := .int (gi S.many n)) hS k2 c2 rfl rfl) q2⟩
    | _ => exact q2.elim
  · exact h.elim
theorem s_inc (i : Nat) (T : StkTxt X.K Z) (b : AQ X Z e u) (hN : X.N[i]? = some x := by rfl) (hv : Vis X.env.scope x := by first | exact Or.inl rfl | exact Or.inr (Or.inl rfl) | exact Or.inr (Or.inr rfl)) (hd : (x == ("__debug__" : Str)) = false := by decide) (hcd : (x == ("__classdict__" : Str)) = false := by decide) :
    AS X Z W (.AugAssign (.Attribute (.Name x p2) "many" pos') .Add e pos) (sInc i (· + ·) u) := s_incG i T b in_add (fun a b H Q q => ⟨a, b, rfl, rfl, q⟩) hN hv hd hcd
theorem s_dec (i : Nat) (T : StkTxt X.K Z) (b : AQ X Z e u) (hN : X.N[i]? = some x := by rfl) (hv : Vis X.env.scope x := by first | exact Or.inl rfl | exact Or.inr (Or.inl rfl) | exact Or.inr (Or.inr rfl)) (hd : (x == ("__debug__" : Str)) = false := by decide) (hcd : (x == ("__classdict__" : Str)) = false := by decide) :
    AS X Z W (.AugAssign (.Attribute (.Name x p2) "many" pos') .Sub e pos) (sInc i (· - ·) u) := s_incG i T b in_sub (fun a b H Q q => ⟨a, b, rfl, rfl, q⟩) hN hv hd hcd
/-! ### errors -/
def sRaise0 : FS := fun En a => En.ex .noSuch a.S
theorem s_raise0 {bmB : List Value} {Bn newId initId : String} (F : ExcBaseFacts Bn newId initId bmB) (q : PySem.W.excIn X.K Z.noSuch bmB newId = true) (gC : X.mg "NoSuch" = some (.ref Z.noSuch)) (kC : PySem.W.keepIn X.K (.ref Z.noSuch) = true) (rs : Raises X (.ref Z.noSuch)) (hc : X.calm = true) (tk : Takes X W) (hg : Gl X "NoSuch") :
    AS X Z W (.Raise (some (.Call (.Name "NoSuch" p) [] [] pos')) none pos) sRaise0 := ⟨_, ps_raise hc tk (pmk_own0 F q gC kC rs hg), fun B σ H G a Dn En r w k h => w .noSuch σ H G a.S _ _ r.toRelS h rfl⟩
/-- raise E(e) -/
def sRaiseE (er : D → Option Err) (f : FE) : FS := fun En a => f En.ex a fun d a1 => ∃ err, er d = some err ∧ En.ex err a1.S
def erConf : D → Option Err := fun _ => some .conflict
def erRef : D → Option Err := fun d => match d with | .str s => some (.refused s) | _ => none
def erName : D → Option Err := fun d => match d with | .str s => some (.invName s) | _ => none
theorem s_raiseE {fld qual : Str} {C fI : Addr} {kk : Nat} {er : D → Option Err} (T : PySem.Vx.ErrTxt X.prog X.K X.mg x fld qual C fI) (Fo : PySem.Vx.FldOk fld) (hr : Room kk X.A) (hc : X.calm = true) (tk : Takes X W) (a : AE X Z W e f)
    (hz : ∀ d err v dd (H G : Hp), er d = some err → R G d v → ErrAt Z err (.ref C) (some dd) (upd H dd (.xd [(fld, v)]))) (hg : Gl X x) (hdb : (x == ("__debug__" : Str)) = false := by decide)
    (hs : starEach [e] X.env = (false, eval e X.env) :: starEach [] X.env := by rfl) (hpl : (backTo pos' (starEach [] X.env)).any (·.1) = false := by rfl) : AS X Z W (.Raise (some (.Call (.Name x p) [e] [] pos')) none pos) (sRaiseE er f) := by
  obtain ⟨t, pa, sa⟩ := a.ex
  refine ⟨_, ps_raiseE hc T Fo hr tk (pa_cons pa pa_nil hs) hg hdb hs hpl, fun B σ H G a Dn En r w k h => sa B σ H G a _ _ _ r w h fun d a1 v H1 G1 q1 e1 r1 x1 => ⟨v, rfl, fun dd hd => ?_⟩⟩
  obtain ⟨err, he, q1⟩ := q1
  exact w err σ _ G1 a1.S _ _ (r1.toRelS.unknown hd) q1 (hz d err v dd H1 G1 he x1)
theorem s_conf {qual : Str} {fI : Addr} {kk : Nat} (T : PySem.Vx.ErrTxt X.prog X.K X.mg "Conflict" "paths" qual Z.conflict fI) (hr : Room kk X.A) (hc : X.calm = true) (tk : Takes X W) (a : AE X Z W e f) (hg : Gl X "Conflict")
    (hs : starEach [e] X.env = (false, eval e X.env) :: starEach [] X.env := by rfl) (hpl : (backTo pos' (starEach [] X.env)).any (·.1) = false := by rfl) : AS X Z W (.Raise (some (.Call (.Name "Conflict" p) [e] [] pos')) none pos) (sRaiseE erConf f) :=
  s_raiseE T PySem.Vx.fld_paths hr hc tk a (fun d err v dd H G he _ => by cases he; exact rfl) hg (by decide) hs hpl
theorem s_refu {qual : Str} {fI : Addr} {kk : Nat} (T : PySem.Vx.ErrTxt X.prog X.K X.mg "Refused" "branch" qual Z.refused fI) (hr : Room kk X.A) (hc : X.calm = true) (tk : Takes X W) (a : AE X Z W e f) (hg : Gl X "Refused")
    (hs : starEach [e] X.env = (false, eval e X.env) :: starEach [] X.env := by rfl) (hpl : (backTo pos' (starEach [] X.env)).any (·.1) = false := by rfl) : AS X Z W (.Raise (some (.Call (.Name "Refused" p) [e] [] pos')) none pos) (sRaiseE erRef f) :=
  s_raiseE T PySem.Vx.fld_branch hr hc tk a (fun d err v dd H G he hv => by
    cases d with
    | str s => cases he; cases hv; exact ⟨rfl, dd, rfl, upd_same⟩
    | _ => cases he) hg (by decide) hs hpl
theorem s_name {qual : Str} {fI : Addr} {kk : Nat} (T : PySem.Vx.ErrTxt X.prog X.K X.mg "InvalidName" "name" qual Z.invName fI) (hr : Room kk X.A) (hc : X.calm = true) (tk : Takes X W) (a : AE X Z W e f) (hg : Gl X "InvalidName")
    (hs : starEach [e] X.env = (false, eval e X.env) :: starEach [] X.env := by rfl) (hpl : (backTo pos' (starEach [] X.env)).any (·.1) = false := by rfl) : AS X Z W (.Raise (some (.Call (.Name "InvalidName" p) [e] [] pos')) none pos) (sRaiseE erName f) :=
  s_raiseE T PySem.Vx.fld_name hr hc tk a (fun d err v dd H G he hv => by
    cases d with
    | str s => cases he; cases hv; exact ⟨rfl, dd, rfl, upd_same⟩
    | _ => cases he) hg (by decide) hs hpl
end
/-! ### a def -/
section
variable {P : Program} {w : World} {K : PySem.W.Frag} {mg : Str → Option Value} {base : Heap} {Z : Cl}
def endA (EA : Err → Option Stk → Prop) (P : D → Option Stk → Prop) : AEnds := { nx := fun a => P .non a.S, rt := fun d a => P d a.S, ex := EA }
def startA (n : Nat) (xs : List AV) : List (Option AV) := xs.map some ++ List.replicate (n - xs.length) none
theorem Args.at {B : Base} {H G : Hp} : ∀ {xs : List AV} {vs : List V} {i : Nat} {x : AV}, Args B H G xs vs → xs[i]? = some x → ∃ v, vs[i]? = some v ∧ SlotR B H G x v ∧ x.passes = true
  | [], _, _, _, _, e => by simp at e
  | _ :: _, _, 0, _, h, e => by
    obtain ⟨v, r, rfl, h1, h2, _⟩ := h
    simp at e; subst e
    exact ⟨v, rfl, h2, h1⟩
  | _ :: _, _, i + 1, _, h, e => by
    obtain ⟨v, r, rfl, _, _, h3⟩ := h
    simp at e
    obtain ⟨u, k1, k2⟩ := Args.at h3 e
    exact ⟨u, by simpa using k1, k2⟩
theorem own_pass {x : AV} (h : x.passes = true) : x.owned = false := by cases x <;> first | rfl | cases h
theorem startA_at {n i : Nat} {xs : List AV} {x : AV} (h : (startA n xs)[i]? = some (some x)) : xs[i]? = some x := by
  unfold startA at h
  by_cases hi : i < xs.length
  · rw [List.getElem?_append_left (by simpa using hi), List.getElem?_map] at h
    cases q : xs[i]? with
    | none => rw [q] at h; cases h
    | some y => rw [q] at h; cases h; rfl
  · rw [List.getElem?_append_right (by simpa using hi), List.getElem?_replicate] at h
    split at h <;> cases h
theorem Rel.begin {B : Base} {H : Hp} {S : Option Stk} {N : List Str} {xs : List AV} {vs : List V} (r : RelS Z B H B.G0 S) (hk : B.GK = B.G0) (x : Args B H B.G0 xs vs) : Rel Z B (L2.start N vs) H B.G0 ⟨startA N.length xs, S⟩ := by
  refine ⟨r, ?_, fun i y hi => ?_, fun i j p y z _ hi hy _ _ _ _ => ?_, by rw [hk]; exact Ex.refl _⟩
  · show (L2.start N vs).length = (startA N.length xs).length
    unfold L2.start startA
    simp [x.len]
  · have hi := startA_at hi
    obtain ⟨v, h1, h2, _⟩ := x.at hi
    refine ⟨v, ?_, h2⟩
    unfold L2.start
    rw [List.getElem?_append_left (by rw [List.length_map]; exact (List.getElem?_eq_some_iff.mp h1).1), List.getElem?_map, h1]
    rfl
  · have hi := startA_at hi
    obtain ⟨v, _, _, h3⟩ := x.at hi
    rw [own_pass h3] at hy
    cases hy
/-- THE RULE for a def: its body read without heaps -/
theorem aok {x qual : Str} {st : Stmt} {f : Addr} {fd : FuncData} {N ps : List Str} {k n : Nat} {F : FD} (Fn : Fun K x qual st f fd) (Sc : FnScope N ps (defScope st)) (hn : ps.length = n)
    (hbody : ∀ (cdv : Value) (A : Around) (outer : List Env) (s : Shared) (H : Hp) (E : XK), Room k (A.deeper (PyProof.Rows.envOfC qual (defScope st) s.heap.objs.size f cdv)) →
      ∃ r, ASs (cxOf (L2.CX P w) P w K mg base N qual (defScope st) f cdv A outer s H E) Z (fun c d _ H => E c d H) (defBody st) r ∧ ∀ EA xs S Q, F EA xs S Q → xs.length = n → r (endA EA Q) ⟨startA N.length xs, S⟩) :
    FnOk P w K mg base (L2.CX P w) (k + 1) f fd ps (spA Z n F) := by
  refine Fn.okX Sc (spA_len hn) fun cdv A outer s H vs Q E hr h => ?_
  obtain ⟨B, xs, S, P', EA, h1, h2, h3, h4, h5, h6, h7, h8, h9⟩ := h
  obtain ⟨r, hr1, hr2⟩ := hbody cdv A outer s H E hr
  obtain ⟨t, p, sd⟩ := hr1.ex
  refine ⟨t, p, sd B _ H B.G0 ⟨startA N.length xs, S⟩ _ (endA EA P') (Rel.begin h5 h4 h6) (fun err σ H G S c d rl he hc => h9 err S H G c d he rl hc) ⟨fun σ H G a rl hq => h8 _ _ _ _ _ hq rl.toRelS rfl, fun d v σ H G a rl hv hq => h8 _ _ _ _ _ hq rl.toRelS hv, fun _ _ _ _ _ z => z.elim, fun _ _ _ _ _ z => z.elim⟩ (hr2 EA xs S P' h7 h1)⟩
end
end Ab


namespace Ab
open PySem L2
/-! ### the text -/
def top (i : Nat) : Stmt := PySem.Challenge.pw_versionkept_k29_stacks_of_patches.main.body.getD i (.Pass ⟨0, 0, 0, 0⟩)
/-- a def of the text, as its callers see it -/
structure Dfn (P : Program) (w : World) (K : PySem.W.Frag) (mg : Str → Option Value) (base : Heap) (Z : Cl) (k : Nat) (x : Str) (n : Nat) (F : FD) : Prop where
  ex : ∃ f fd ps, FnOk P w K mg base (L2.CX P w) k f fd ps (spA Z n F) ∧ mg x = some (.ref f) ∧ PySem.W.keepIn K (.ref f) = true ∧ Binds K fd ps []
structure Mtd (P : Program) (w : World) (K : PySem.W.Frag) (mg : Str → Option Value) (base : Heap) (Z : Cl) (k : Nat) (x : Str) (n : Nat) (F : FD) : Prop where
  ex : ∃ f fd ps, FnOk P w K mg base (L2.CX P w) k f fd ps (spA Z n F) ∧ Meth K Z.stack x f ∧ Binds K fd ps []
/-- no name of these is the text's own -/
structure Blt (mg : Str → Option Value) : Prop where
  len : mg "len" = none
  tuple : mg "tuple" = none
  isinstance : mg "isinstance" = none
  all : mg "all" = none
  any : mg "any" = none
  enumerate : mg "enumerate" = none
  range : mg "range" = none
  sorted : mg "sorted" = none
  max : mg "max" = none
  list : mg "list" = none
  dict : mg "dict" = none
  reversed : mg "reversed" = none
  int : mg "int" = none
  bool : mg "bool" = none
  str : mg "str" = none
section
variable {X : Cx} {Z : Cl} {W : WX} {e : Expr} {pos p p2 apos : Pos} {es : List Expr} {fa : FA} {F : FD} {n k k' : Nat} {x m : Str}
theorem acl (Dn : Dfn X.prog X.w X.K X.mg X.base Z k x n F) (hr : Room k' X.A) (hk : k ≤ k') (tk : Takes X W) (a : AA X Z W (e :: es) fa)
    (hg : Gl X x) (hdb : (x == ("__debug__" : Str)) = false := by decide) (he : starEach (e :: es) X.env = (false, eval e X.env) :: starEach es X.env := by rfl) (hpl : (backTo pos (starEach es X.env)).any (·.1) = false := by rfl) :
    AE X Z W (.Call (.Name x p) (e :: es) [] pos) (fCall n F fa) := by
  obtain ⟨f, fd, ps, h1, h2, h3, h4⟩ := Dn.ex
  exact acall h1 (hr.mono hk) h2 h3 h4 tk a hg hdb he hpl
end
section
variable {X : Cx}
def FAddI : F2 := fun x y P => match x, y with
  | .int i, .int j => P (.int (i + j))
  | _, _ => False
theorem ao_iadd : AOp X (inplaceOp .Add) FAddI := by
  refine ⟨_, iop_add, fun H G x y dx dy P Q e hx hy h k => ?_⟩
  cases dx with
  | int i => cases dy with
    | int j => exact ⟨i, j, hx, hy, (k _ h).int⟩
    | _ => exact h.elim
  | _ => exact h.elim
end
/-! ### patches as data -/
structure Hk where
  s : Int
  g : List Str
  c : List Str
def strsD (l : List Str) : D := .tup (l.map .str)
def hkD (h : Hk) : D := .tup [.int h.s, strsD h.g, strsD h.c]
def paD (p : List Hk) : D := .tup (p.map hkD)
/-- a patch turned back, so many lines further -/
def backF (m : Int) : List Hk → List Hk
  | [] => []
  | h :: r => ⟨h.s + m, h.c, h.g⟩ :: backF (m + h.c.length - h.g.length) r
abbrev back (p : List Hk) : List Hk := backF 0 p
theorem backF_len (p : List Hk) : ∀ m, (backF m p).length = p.length := by
  induction p with
  | nil => intro m; rfl
  | cons h r ih => intro m; simp [backF, ih]
/-! ### turned_back -/
abbrev sTurned : Stmt := top 9
theorem scTurned : FnScope ["patch", "found", "moved", "start", "gone", "come"] ["patch"] (defScope sTurned) := ⟨rfl, rfl, rfl, by decide +kernel, rfl, by decide +kernel, by decide +kernel⟩
def fTurned : FD := fun _ xs S P => ∃ p, xs = [.im (paD p)] ∧ p.length < sizeLine ∧ P (paD (back p)) S
section
variable {P : Program} {w : World} {K : PySem.W.Frag} {mg : Str → Option Value} {base : Heap} {Z : Cl}
theorem ok_turned {f : Addr} {fd : FuncData} (Fn : Fun K "turned_back" "turned_back" sTurned f fd) (T : Blt mg) : FnOk P w K mg base (L2.CX P w) 1 f fd ["patch"] (spA Z 1 fTurned) := by
  refine aok Fn scTurned rfl fun cdv A outer s H E hr => ?_
  have hp := passes_of (X := cxOf (L2.CX P w) P w K mg base ["patch", "found", "moved", "start", "gone", "come"] "turned_back" (defScope sTurned) f cdv A outer s H E) rfl
  refine ⟨_, ss_cons (s_parN 1 2 qi rfl scTurned.nd)
    (ss_cons (s_for hp rfl (i_t (av 0)) (g_tp rfl (gs_cons (g_nm 3 scTurned.nd) (gs_cons (g_nm 4 scTurned.nd) (gs_cons (g_nm 5 scTurned.nd) gs_nil))) (gl1 (gl1 (gl1 gl0))))
      (ss_cons (s_app 1 (atup (aa_cons (ao ao_add (av 3) (av 2)) (aa_cons (av 5) (aa_cons (av 4) aa_nil)))))
      (ss_one (s_aug 2 ao_iadd (ao ao_sub (alen (av 5) T.len (by rfl)) (alen (av 4) T.len (by rfl))) scTurned.nd))))
    (ss_one (s_ret (atplL (lv 1) T.tuple (by rfl))))), fun EA xs S Q h hn => ?_⟩
  obtain ⟨p, rfl, hz, hq⟩ := h
  have z3 : 3 ≤ sizeLine := by rw [sizeLine_eq]; omega
  -- the walk
  have go : ∀ (p : List Hk) (acc : List D) (m : Int) (x r3 r4 r5 : Option AV) (En : AEnds), acc.length + p.length < sizeLine → (∀ m' r3 r4 r5, En.nx ⟨[x, some (.owl (acc ++ (backF m p).map hkD)), some (.im (.int m')), r3, r4, r5], S⟩) →
      forA (gTp (gsCons (gNm 3) (gsCons (gNm 4) (gsCons (gNm 5) gsNil)))) (sSeq (sApp 1 (fTup (fCons (fOp FAdd (fVar 3) (fVar 2)) (fCons (fVar 5) (fCons (fVar 4) fNil))))) (sAug 2 FAddI (fOp FSub (fLen (fVar 5)) (fLen (fVar 4)))))
        (p.map hkD) En ⟨[x, some (.owl acc), some (.im (.int m)), r3, r4, r5], S⟩ := by
    intro p
    induction p with
    | nil =>
      intro acc m x r3 r4 r5 En hl hk
      have := hk m r3 r4 r5
      simp only [backF, List.map_nil, List.append_nil] at this
      exact this
    | cons h r ih =>
      intro acc m x r3 r4 r5 En hl hk
      rw [List.length_cons] at hl
      refine ⟨z3, by show acc.length < sizeLine; omega, ?_⟩
      refine ih (acc ++ [hkD ⟨h.s + m, h.c, h.g⟩]) (m + ((h.c.map D.str).length - (h.g.map D.str).length)) x _ _ _ En (by rw [List.length_append, List.length_singleton]; omega) fun m' r3 r4 r5 => ?_
      have := hk m' r3 r4 r5
      simp only [backF, List.map_cons] at this
      rw [List.append_assoc, List.length_map, List.length_map, ← Int.add_sub_assoc]
      exact this
  refine go p [] 0 _ _ _ _ _ (by simpa using hz) fun m' r3 r4 r5 => ?_
  exact hq
end
end Ab


namespace Ab
open PySem L2
section
variable {X : Cx} {Z : Cl} {W : WX} {e e1 e2 e3 : Expr} {f g h : FE} {pos p p2 apos : Pos} {fl : FL} {fk : FK} {rest : List Expr}
/-! ### isinstance -/
inductive Ty4 | tuple | int | bool | str
def Ty4.name : Ty4 → String
  | .tuple => "tuple"
  | .int => "int"
  | .bool => "bool"
  | .str => "str"
def isiD : Ty4 → D → Bool
  | .tuple, .tup _ => true
  | .tuple, .xt _ => true
  | .int, .int _ => true
  | .int, .bl _ => true
  | .bool, .bl _ => true
  | .str, .str _ => true
  | _, _ => false
def fIsi (t : Ty4) (f : FE) : FE := fun E a P => f E a fun x a1 => P (.bl (isiD t x)) a1
theorem isi_kind {K : PySem.W.Frag} {G H : Hp} (e : Ex G H) {t : Ty4} {d : D} {v : V} (h : R G d v) : ∃ c : String, TyX K H v (.type c) ∧ kitB c t.name = some (isiD t d) := by
  cases d with
  | non => cases h; exact ⟨_, .base .non, by cases t; exact (by decide +kernel : kitB "NoneType" "tuple" = some false); exact (by decide +kernel : kitB "NoneType" "int" = some false); exact (by decide +kernel : kitB "NoneType" "bool" = some false); exact (by decide +kernel : kitB "NoneType" "str" = some false)⟩
  | bl b => cases h; exact ⟨_, .base (.bl b), by cases t; exact (by decide +kernel : kitB "bool" "tuple" = some false); exact (by decide +kernel : kitB "bool" "int" = some true); exact (by decide +kernel : kitB "bool" "bool" = some true); exact (by decide +kernel : kitB "bool" "str" = some false)⟩
  | int b => cases h; exact ⟨_, .base (.int b), by cases t; exact (by decide +kernel : kitB "int" "tuple" = some false); exact (by decide +kernel : kitB "int" "int" = some true); exact (by decide +kernel : kitB "int" "bool" = some false); exact (by decide +kernel : kitB "int" "str" = some false)⟩
  | str b => cases h; exact ⟨_, .base (.str b), by cases t; exact (by decide +kernel : kitB "str" "tuple" = some false); exact (by decide +kernel : kitB "str" "int" = some false); exact (by decide +kernel : kitB "str" "bool" = some false); exact (by decide +kernel : kitB "str" "str" = some true)⟩
  | tup ds => obtain ⟨q, vs, rfl, h1, h2⟩ := h; exact ⟨_, .base (.tup (e _ _ h1)), by cases t; exact (by decide +kernel : kitB "tuple" "tuple" = some true); exact (by decide +kernel : kitB "tuple" "int" = some false); exact (by decide +kernel : kitB "tuple" "bool" = some false); exact (by decide +kernel : kitB "tuple" "str" = some false)⟩
  | lst ds => obtain ⟨q, vs, rfl, h1, h2⟩ := h; exact ⟨_, .base (.lst (e _ _ h1)), by cases t; exact (by decide +kernel : kitB "list" "tuple" = some false); exact (by decide +kernel : kitB "list" "int" = some false); exact (by decide +kernel : kitB "list" "bool" = some false); exact (by decide +kernel : kitB "list" "str" = some false)⟩
  | dct ds => obtain ⟨q, vs, rfl, h1, h2⟩ := h; exact ⟨_, .base (.dK (e _ _ h1)), by cases t; exact (by decide +kernel : kitB "dict" "tuple" = some false); exact (by decide +kernel : kitB "dict" "int" = some false); exact (by decide +kernel : kitB "dict" "bool" = some false); exact (by decide +kernel : kitB "dict" "str" = some false)⟩
  | xt ds => obtain ⟨q, vs, o, rfl, h1, h2⟩ := h; exact ⟨_, .fTuple (e _ _ h1), by cases t; exact (by decide +kernel : kitB "tuple" "tuple" = some true); exact (by decide +kernel : kitB "tuple" "int" = some false); exact (by decide +kernel : kitB "tuple" "bool" = some false); exact (by decide +kernel : kitB "tuple" "str" = some false)⟩
theorem aisi (t : Ty4) {tn : Str} (a : AE X Z W e f) (hm : X.mg "isinstance" = none) (hmt : X.mg tn = none) (hg : Gl X "isinstance") (hgt : Gl X tn) (hv : bootBuiltins tn = some (.type t.name)) (hn : tn ≠ "__name__" := by decide) (hdb : (tn == ("__debug__" : Str)) = false := by decide)
    (he : starEach [e, .Name tn p2] X.env = (false, eval e X.env) :: starEach [.Name tn p2] X.env := by rfl) (he2 : starEach [.Name tn p2] X.env = (false, eval (.Name tn p2) X.env) :: starEach [] X.env := by rfl) (hpl : (backTo pos (starEach [.Name tn p2] X.env)).any (·.1) = false := by rfl) :
    AE X Z W (.Call (.Name "isinstance" p) [e, .Name tn p2] [] pos) (fIsi t f) := by
  obtain ⟨ta, pa, sa⟩ := a.ex
  refine ⟨_, pe_callB call_isi hg hm (by decide +kernel) (pa_cons pa (pa_cons (pe_bltn (v := .ty t.name) hgt hmt hv rfl hn hdb) pa_nil he2) he) (by decide) (by decide) he hpl, fun B σ H G a P Q E rl w h k => sa B σ H G a _ _ E rl w h fun x a1 v H1 G1 h1 e1 r1 x1 => ?_⟩
  obtain ⟨c, hc, hk⟩ := isi_kind (K := X.K) (t := t) r1.gh x1
  exact ⟨v, .ty t.name, _, _, _, rfl, .ty _, hc, kit_ty hk, k _ _ _ _ _ h1 e1 r1 rfl⟩
/-! ### sorted, of pairs of ints -/
def prD (q : Int × Int) : D := .tup [.int q.1, .int q.2]
def lexLe (a b : Int × Int) : Prop := a.1 < b.1 ∨ (a.1 = b.1 ∧ a.2 ≤ b.2)
def fSrt (f : FE) : FE := fun E a P => f E a fun x a1 => match x with
  | .lst ds => ∃ ns : List (Int × Int), ds = ns.map prD ∧ ∀ ms : List (Int × Int), ms.Perm ns → ms.Pairwise lexLe → P (.lst (ms.map prD)) a1
  | _ => False
def pairAt (G : Hp) : V → Int × Int
  | .ref t => match G t with
    | some (.tup [.int i, .int j]) => (i, j)
    | _ => (0, 0)
  | _ => (0, 0)
theorem pair_at {G : Hp} {q : Int × Int} {v : V} (h : R G (prD q) v) : pairAt G v = q ∧ ∃ t, v = .ref t ∧ G t = some (.tup [.int q.1, .int q.2]) := by
  obtain ⟨t, vs, rfl, h1, v1, r1, rfl, rfl, v2, r2, rfl, rfl, rfl⟩ := h
  refine ⟨?_, t, rfl, h1⟩
  unfold pairAt
  simp only [h1]
theorem pairs_at {G : Hp} : ∀ {ns : List (Int × Int)} {vs : List V}, Rs G (ns.map prD) vs → vs.map (pairAt G) = ns ∧ ∀ v ∈ vs, ∃ q, R G (prD q) v
  | [], _, h => by cases h; exact ⟨rfl, fun v hv => by cases hv⟩
  | q :: ns, _, h => by
    obtain ⟨v, r, rfl, h1, h2⟩ := h
    obtain ⟨k1, k2⟩ := pairs_at h2
    refine ⟨by rw [List.map_cons, (pair_at h1).1, k1], fun u hu => ?_⟩
    rcases List.mem_cons.mp hu with rfl | hu
    · exact ⟨q, h1⟩
    · exact k2 u hu
theorem pairs_back {G : Hp} : ∀ {vs : List V}, (∀ v ∈ vs, ∃ q, R G (prD q) v) → Rs G ((vs.map (pairAt G)).map prD) vs
  | [], _ => rfl
  | v :: vs, h => by
    obtain ⟨q, hq⟩ := h v List.mem_cons_self
    refine ⟨v, vs, rfl, ?_, pairs_back fun u hu => h u (List.mem_cons_of_mem _ hu)⟩
    rw [(pair_at hq).1]
    exact hq
theorem asrt (a : AE X Z W e f) (hm : X.mg "sorted" = none) (hg : Gl X "sorted") (he : starEach [e] X.env = (false, eval e X.env) :: starEach [] X.env := by rfl) (hpl : (backTo pos (starEach [] X.env)).any (·.1) = false := by rfl) : AE X Z W (.Call (.Name "sorted" p) [e] [] pos) (fSrt f) := by
  obtain ⟨ta, pa, sa⟩ := a.ex
  refine ⟨_, pe_callB cr_sortedPO hg hm (by decide +kernel) (pa_cons pa pa_nil he) (by decide) (by decide) he hpl, fun B σ H G a P Q E rl w h k => sa B σ H G a _ _ E rl w h fun x a1 v H1 G1 h1 e1 r1 x1 => ?_⟩
  cases x with
  | lst ds =>
    obtain ⟨ns, rfl, h1⟩ := h1
    obtain ⟨q, vs, rfl, c1, c2⟩ := x1
    obtain ⟨c3, c4⟩ := pairs_at c2
    refine ⟨q, vs, pairAt G1, rfl, SqL.of (r1.gh _ _ c1), fun x hx => ?_, fun ys p hs hst hp => ?_⟩
    · obtain ⟨z, hz⟩ := c4 x hx
      obtain ⟨d1, t, rfl, d2⟩ := pair_at hz
      exact ⟨t, rfl, by rw [d1]; exact r1.gh _ _ d2⟩
    · have hm : ∀ v ∈ ys, ∃ q, R G1 (prD q) v := fun v hv => c4 v (hst.perm.mem_iff.mp hv)
      have hr := pairs_back hm
      refine k _ _ _ _ _ (h1 (ys.map (pairAt G1)) (by rw [← c3]; exact hst.perm.map _) ?_) (e1.trans (r1.ex hp)) (r1.known hp) ⟨p, ys, rfl, upd_same, hr.mono (r1.ex hp)⟩
      rw [List.pairwise_map]
      refine hs.imp fun {x y} hxy => ?_
      have := SrtO.lexB_no.mp hxy
      unfold lexLe
      omega
  | _ => exact h1.elim
/-! ### max, str, index, dict -/
def fMax (f g : FE) : FE := fun E a P => f E a fun x a1 => g E a1 fun y a2 => match x, y with
  | .int i, .int j => P (.int (if j > i then j else i)) a2
  | _, _ => False
theorem amax (hc : X.calm = true) (a : AE X Z W e1 f) (b : AE X Z W e2 g) (hm : X.mg "max" = none) (hg : Gl X "max") (he : starEach [e1, e2] X.env = (false, eval e1 X.env) :: starEach [e2] X.env := by rfl) (he2 : starEach [e2] X.env = (false, eval e2 X.env) :: starEach [] X.env := by rfl)
    (hpl : (backTo pos (starEach [e2] X.env)).any (·.1) = false := by rfl) : AE X Z W (.Call (.Name "max" p) [e1, e2] [] pos) (fMax f g) := by
  obtain ⟨ta, pa, sa⟩ := a.ex
  obtain ⟨tb, pb, sb⟩ := b.ex
  refine ⟨_, pe_callB (call_max2 hc) hg hm (by decide +kernel) (pa_cons pa (pa_cons pb pa_nil he2) he) (by decide) (by decide) he hpl, fun B σ H G a P Q E rl w h k => sa B σ H G a _ _ E rl w h fun x a1 v H1 G1 h1 e1 r1 x1 => sb B σ H1 G1 a1 _ _ E r1 w h1 fun y a2 u H2 G2 h2 e2 r2 y2 => ?_⟩
  cases x with
  | int i => cases y with
    | int j => cases x1; cases y2; exact ⟨i, j, rfl, k _ _ _ _ _ h2 (e1.trans e2) r2 rfl⟩
    | _ => exact h2.elim
  | _ => exact h2.elim
def fStr (f : FE) : FE := fun E a P => f E a fun x a1 => match x with
  | .int i => i.natAbs.log2 < 1920 ∧ P (.str (toString i)) a1
  | _ => False
theorem astr (a : AE X Z W e f) (hm : X.mg "str" = none) (hg : Gl X "str") (he : starEach [e] X.env = (false, eval e X.env) :: starEach [] X.env := by rfl) (hpl : (backTo pos (starEach [] X.env)).any (·.1) = false := by rfl) : AE X Z W (.Call (.Name "str" p) [e] [] pos) (fStr f) := by
  obtain ⟨ta, pa, sa⟩ := a.ex
  refine ⟨_, pe_callTy call_str_int hg hm (by decide +kernel) (pa_cons pa pa_nil he) (by decide) (by decide) he hpl, fun B σ H G a P Q E rl w h k => sa B σ H G a _ _ E rl w h fun x a1 v H1 G1 h1 e1 r1 x1 => ?_⟩
  cases x with
  | int i => cases x1; exact ⟨i, rfl, h1.1, k _ _ _ _ _ h1.2 e1 r1 rfl⟩
  | _ => exact h1.elim
/-- xs.index(x), there -/
def fIdx (f g : FE) : FE := fun E a P => f E a fun x a1 => match x with
  | .lst ds => g E a1 fun y a2 => ds.all flatD = true ∧ flatD y = true ∧ ∃ j : Nat, ds[j]? = some y ∧ (∀ m, m < j → ds[m]? ≠ some y) ∧ P (.int (j : Nat)) a2
  | _ => False
theorem aidx (a : AE X Z W e1 f) (b : AE X Z W e2 g) (hbase : attributeBase e1 "index" X.env (eval e1 X.env) = eval e1 X.env := by rfl)
    (hfew : ((backTo p (starEach [e2] X.env)).all (fun z => !z.1) && (backToKw p (keywordEach [] X.env)).all (fun z => z.1.isSome) && decide ([e2].length + ([] : List Keyword).length + (if ([] : List Keyword).isEmpty then 0 else 1) < 30)) = true := by rfl)
    (hline : (apos.endLine == p.line) = true := by rfl) (hs : starEach [e2] X.env = (false, eval e2 X.env) :: starEach [] X.env := by rfl) (hplain : (backTo p (starEach [] X.env)).any (·.1) = false := by rfl) :
    AE X Z W (.Call (.Attribute e1 "index" apos) [e2] [] p) (fIdx f g) := by
  obtain ⟨ta, pa, sa⟩ := a.ex
  obtain ⟨tb, pb, sb⟩ := b.ex
  refine ⟨_, pe_bm PySem.F.plainAttrs_list PySem.F.slot_list_index PySem.F.type_list_index mt_index pa (pa_cons pb pa_nil hs) hbase hfew hline hs hplain, fun B σ H G a P Q E rl w h k => sa B σ H G a _ _ E rl w h fun x a1 v H1 G1 h1 e1 r1 x1 => ?_⟩
  cases x with
  | lst ds =>
    obtain ⟨q, vs, rfl, c1, c2⟩ := x1
    refine ⟨.inl ⟨rfl, vs, SqL.of (r1.gh _ _ c1)⟩, sb B σ H1 G1 a1 _ _ E r1 w h1 fun y a2 u H2 G2 h2 e2 r2 y2 => ?_⟩
    obtain ⟨f1, f2, j, hj, hn, hk⟩ := h2
    have c3 := c2.mono e2
    obtain ⟨z, hz, rz⟩ := c3.get hj
    have fl : ∀ {m : Nat} {d : D}, ds[m]? = some d → flatD d = true := fun {m d} hm => List.all_eq_true.mp f1 d (List.mem_of_getElem? hm)
    refine ⟨q, vs, u, j, z, rfl, rfl, SqL.of (r2.gh _ _ (e2 _ _ c1)), flat_of f2 y2, flats_of f1 c3, hz, ?_, fun m z' hm hz' => ?_, k _ _ _ _ _ hk (e1.trans e2) r2 rfl⟩
    · rw [eqV_of (fl hj) f2 rz y2]; exact same_self
    · obtain ⟨d, hd, rd⟩ := c3.back hz'
      rw [eqV_of (fl hd) f2 rd y2]
      exact same_no fun e => hn m hm (by rw [hd, e])
  | _ => exact h1.elim
/-- dict of pairs -/
def kvD (q : Str × D) : D := .tup [.str q.1, q.2]
def mergeD (ks more : List (Str × D)) : List (Str × D) := more.foldl (fun acc q => putD acc q.1 q.2) ks
theorem Rk.merge {G : Hp} : ∀ {more ks : List (Str × D)} {ms ws : List (Key × V)}, Rk G more ms → Rk G ks ws → Rk G (mergeD ks more) (mergeK ws ms)
  | [], _, _, _, h, t => by cases h; exact t
  | (j, d) :: more, _, _, _, h, t => by
    obtain ⟨v, r, rfl, h1, h2⟩ := h
    show Rk G (mergeD (putD _ j d) more) (mergeK (putK _ (Sum.inr j) v) r)
    exact Rk.merge h2 (t.put h1)
def nDictP (f : FE) : FN := fun E a P => f E a fun x a1 => match x with
  | .lst ds => ∃ ks : List (Str × D), ds = ks.map kvD ∧ P (.owd (mergeD [] ks)) a1
  | _ => False
theorem pairs_kv {K : PySem.W.Frag} {G H : Hp} (e : Ex G H) : ∀ {ks : List (Str × D)} {vs : List V}, Rs G (ks.map kvD) vs → ∃ (ps : List Addr) (ws : List (Key × V)), vs = ps.map V.ref ∧ Paired (fun p (kv : Key × V) => SqT K H p [kV kv.1, kv.2]) ps ws ∧ Rk G ks ws
  | [], _, h => by cases h; exact ⟨[], [], rfl, .nil, rfl⟩
  | (j, d) :: ks, _, h => by
    obtain ⟨v, r, rfl, ⟨t, us, rfl, g1, v1, r1, rfl, rfl, v2, r2, rfl, g2, rfl⟩, h2⟩ := h
    obtain ⟨ps, ws, rfl, c1, c2⟩ := pairs_kv e h2
    exact ⟨t :: ps, (Sum.inr j, v2) :: ws, rfl, .cons (SqT.of (e _ _ g1)) c1, v2, ws, rfl, g2, c2⟩
theorem adictp (hc : X.calm = true) (a : AE X Z W e f) (hm : X.mg "dict" = none) (hg : Gl X "dict") (he : starEach [e] X.env = (false, eval e X.env) :: starEach [] X.env := by rfl) (hpl : (backTo pos (starEach [] X.env)).any (·.1) = false := by rfl) : AN X Z W (.Call (.Name "dict" p) [e] [] pos) (nDictP f) := by
  obtain ⟨ta, pa, sa⟩ := a.ex
  refine ⟨_, pe_callTy (call_dictP hc) hg hm (by decide +kernel) (pa_cons pa pa_nil he) (by decide) (by decide) he hpl, fun B σ H G a P Q E rl w h k => sa B σ H G a _ _ E rl w h fun x a1 v H1 G1 h1 e1 r1 x1 => ?_⟩
  cases x with
  | lst ds =>
    obtain ⟨ks, rfl, h1⟩ := h1
    obtain ⟨q, vs, rfl, c1, c2⟩ := x1
    obtain ⟨ps, ws, rfl, c3, c4⟩ := pairs_kv (K := X.K) r1.gh c2
    exact ⟨q, ps, ws, rfl, SqL.of (r1.gh _ _ c1), c3, fun p hp => k _ _ _ _ _ _ h1 e1 r1 hp (show NewR G1 (.owd (mergeD [] ks)) (.dK (mergeK [] ws)) from c4.merge rfl)⟩
  | _ => exact h1.elim
end
end Ab


namespace Ab
open PySem L2
/-! ### parts that are read as if they were called -/
def AV.keepO : Option AV → Option AV
  | some (.im d) => some (.im d)
  | some .stk => some .stk
  | some .rng => some .rng
  | _ => none
def A.hide (a : A) : A := ⟨a.ρ.map AV.keepO, a.S⟩
def A.offs (a : A) : List Nat → A
  | [] => a
  | v :: vs => (a.offs vs).off v
section
variable {Z : Cl} {B : Base} {σ : St} {H H' G G' : Hp} {a : A} {S S' : Option Stk} {p : Addr} {o o' : HO}
theorem hide_at {a : A} {i : Nat} {x : AV} (h : a.hide.ρ[i]? = some (some x)) : a.ρ[i]? = some (some x) ∧ x.passes = true := by
  have h : (a.ρ.map AV.keepO)[i]? = some (some x) := h
  rw [List.getElem?_map] at h
  cases q : a.ρ[i]? with
  | none => rw [q] at h; cases h
  | some y =>
    rw [q] at h
    have h : some (AV.keepO y) = some (some x) := h
    simp only [Option.some.injEq] at h
    cases y with
    | none => cases h
    | some y => cases y <;> first | (cases h; exact ⟨rfl, rfl⟩) | cases h
theorem Rel.sub {pd : Addr} (r : Rel Z B σ H G a) (hp : ∀ q, B.q = some q → PdOf H q pd) : Rel Z ⟨H, G, B.q, pd, B.r, G⟩ σ H G a.hide := by
  refine ⟨r.enter hp, ?_, fun i y hi => ?_, fun i j p y z _ hi hy _ _ _ _ => ?_, Ex.refl _⟩
  · show σ.length = (a.ρ.map AV.keepO).length
    rw [List.length_map]; exact r.len
  · obtain ⟨h1, h2⟩ := hide_at hi
    obtain ⟨v, k1, k2⟩ := r.sl i y h1
    refine ⟨v, k1, ?_⟩
    cases y with
    | im d => exact k2
    | stk => exact k2
    | rng => exact k2
    | _ => cases h2
  · obtain ⟨h1, h2⟩ := hide_at hi
    rw [own_pass h2] at hy
    cases hy
theorem Rel.wipe (r : Rel Z B σ H G a) : ∀ vs, Rel Z B (L2.wipe σ vs) H G (a.offs vs)
  | [] => r
  | v :: vs => (Rel.wipe r vs).drop
theorem wipe_at {σ : St} {j : Nat} : ∀ {vs : List Nat}, (L2.wipe σ vs)[j]? = if j ∈ vs then (if j < σ.length then some none else none) else σ[j]?
  | [] => rfl
  | v :: vs => by
    show ((L2.wipe σ vs).set v none)[j]? = _
    rw [List.getElem?_set, wipe_at (vs := vs), wipe_length]
    by_cases e : v = j
    · subst e
      rw [if_pos rfl, if_pos List.mem_cons_self]
    · rw [if_neg e]
      by_cases h : j ∈ vs
      · rw [if_pos h, if_pos (List.mem_cons_of_mem _ h)]
      · rw [if_neg h, if_neg (fun z => by rcases List.mem_cons.mp z with z | z; exact e z.symm; exact h z)]
theorem wipe_back {σ σ2 : St} {vs ws : List Nat} (hw : ∀ j ∈ ws, j ∈ vs) (hl : σ2.length = (L2.wipe σ vs).length) (h : ∀ j, j ∉ ws → σ2[j]? = (L2.wipe σ vs)[j]?) : L2.wipe σ2 vs = L2.wipe σ vs := by
  rw [wipe_length] at hl
  refine List.ext_getElem? fun j => ?_
  rw [wipe_at, wipe_at]
  by_cases hj : j ∈ vs
  · rw [if_pos hj, if_pos hj, hl]
  · rw [if_neg hj, if_neg hj, h j fun z => hj (hw j z), wipe_at, if_neg hj]
/-- a thing that is not known: made since the beginning, in no slot of one's own, not the stack's -/
structure Loose (B : Base) (σ : St) (H G : Hp) (ρ : List (Option AV)) (p : Addr) (o : HO) : Prop where
  h : H p = some o
  g : G p = none
  b : B.H0 p = none
  s : ∀ (j : Nat) (y : AV), ρ[j]? = some (some y) → y.owned = true → σ[j]? ≠ some (some (.ref p))
  q : ∀ q, B.q = some q → ¬ PdOf H q p
theorem Rel.loose (r : Rel Z B σ H G a) (hp : H p = none) : Loose B σ (upd H p o) G a.ρ p o := by
  have hp0 : B.H0 p = none := by
    cases q : B.H0 p with
    | none => rfl
    | some w => exact absurd hp (r.dom p (by rw [q]; simp))
  refine ⟨upd_same, r.gh.free hp, hp0, fun j y hj hy hz => ?_, fun q hq k => ?_⟩
  · obtain ⟨u, u1, u2⟩ := r.sl j y hj
    rw [u1] at hz
    cases hz
    cases y with
    | owl ds => obtain ⟨p', vs', e, w1, _⟩ := u2; cases e; rw [hp] at w1; cases w1
    | owd ds => obtain ⟨p', vs', e, w1, _⟩ := u2; cases e; rw [hp] at w1; cases w1
    | _ => cases hy
  · have hne : q ≠ p := fun e => r.qn q hq (by rw [e]; exact hp0)
    obtain ⟨C, dx, fs, k1, k2⟩ := k
    rw [upd_ne hne] at k1
    have st := r.st
    cases hS : a.S with
    | none => rw [hS] at st; have st : B.q = none := st; rw [st] at hq; cases hq
    | some S =>
      rw [hS] at st
      obtain ⟨q', pd, s1, s2, s3⟩ := st
      rw [hq] at s1; cases s1
      have e := PdOf.uni ⟨C, dx, fs, k1, k2⟩ s2.pd
      exact s2.some1.2 (by rw [← e]; exact hp)
/-- it is written -/
theorem Rel.bump (r : Rel Z B σ H G a) (l : Loose B σ H G a.ρ p o) : Rel Z B σ (upd H p o') G a ∧ Loose B σ (upd H p o') G a.ρ p o' := by
  have pq : ∀ q z, B.q = some q → PdOf (upd H p o') q z → PdOf H q z := fun q z hq k => by
    obtain ⟨C, dx, fs, k1, k2⟩ := k
    rw [upd_ne (fun e => r.qn q hq (by rw [e]; exact l.b))] at k1
    exact ⟨C, dx, fs, k1, k2⟩
  exact ⟨r.slots (r.toRelS.upo l.h l.g l.b l.q) l.s fun q p' hq _ k => pq q p' hq k, ⟨upd_same, l.g, l.b, l.s, fun q hq k => l.q q hq (pq q p hq k)⟩⟩
/-- it is given away -/
theorem Rel.give (r : Rel Z B σ H G a) (l : Loose B σ H G a.ρ p o) : Rel Z B σ H (upd G p o) a := by
  have eg : Ex G (upd G p o) := Ex.new l.g
  have gh : Ex (upd G p o) H := fun z w hz => by
    by_cases e : z = p
    · subst e; rw [upd_same] at hz; cases hz; exact l.h
    · rw [upd_ne e] at hz; exact r.gh z w hz
  have gnn : ∀ z, z ≠ p → G z = none → upd G p o z = none := fun z hz hg => by rw [upd_ne hz]; exact hg
  have n0 : ∀ z, B.H0 z ≠ none → z ≠ p := fun z hz e => hz (by rw [e]; exact l.b)
  have rs : RelS Z B H (upd G p o) a.S := by
    refine ⟨gh, r.g0.trans eg, fun z hz => ?_, r.dom, r.keep, ?_, fun x hx => ?_, r.qn, fun t ht => ⟨(r.tb t ht).1, gnn _ (n0 _ (r.tb t ht).2.2) (r.tb t ht).2.1, (r.tb t ht).2.2⟩⟩
    · by_cases e : z = p
      · subst e; exact .inr l.b
      · rw [upd_ne e] at hz; exact r.new z hz
    · have st := r.st
      cases hS : a.S with
      | none => rw [hS] at st; exact st
      | some S =>
        rw [hS] at st
        obtain ⟨q, pd, s1, s2, s3⟩ := st
        have s4 := s2
        obtain ⟨dx, vb, vw, ws, t1, t2, t3, t4, _⟩ := s4
        have n2 : pd ≠ p := fun e => l.q q s1 (by rw [← e]; exact s2.pd)
        exact ⟨q, pd, s1, s2.keep eg rfl rfl (gnn _ (n0 _ (r.qn q s1)) t3) (gnn _ n2 t4), s3⟩
    · obtain ⟨s1, s2⟩ := r.rn x hx
      have s4 := s1
      obtain ⟨i0, i1, i3, s, ns, t1, t2, _⟩ := s4
      exact ⟨s1.keep eg rfl (gnn _ (n0 _ s2) t2), s2⟩
  refine ⟨rs, r.len, fun j y hj => ?_, r.dis, r.gk.trans eg⟩
  obtain ⟨u, u1, u2⟩ := r.sl j y hj
  refine ⟨u, u1, ?_⟩
  cases y with
  | im d => exact R.mono eg u2
  | owl ds' =>
    obtain ⟨p', vs', rfl, w1, w2, w3, w4⟩ := u2
    have hne : p' ≠ p := fun z => l.s j _ hj rfl (by rw [u1, z])
    exact ⟨p', vs', rfl, w1, gnn _ hne w2, w3, w4.mono eg⟩
  | owd ks =>
    obtain ⟨p', vs', rfl, w1, w2, w3, w4, w5⟩ := u2
    have hne : p' ≠ p := fun z => l.s j _ hj rfl (by rw [u1, z])
    exact ⟨p', vs', rfl, w1, gnn _ hne w2, w3, w4.mono eg, w5⟩
  | stk => exact u2
  | rng => exact u2
  | kept ws ks => exact kept_mono u2 eg rfl rfl
/-- behind a part that was read as if it was called -/
theorem Loose.after {pd : Addr} (r : Rel Z B σ H G a) (hp : ∀ q, B.q = some q → PdOf H q pd) (l : Loose B σ H G a.ρ p o) (x : RelS Z ⟨H, G, B.q, pd, B.r, G⟩ H' G' S') : Loose B σ H' G' a.ρ p o := by
  have hne : ∀ q, B.q = some q → p ≠ q := fun q hq e => r.qn q hq (by rw [← e]; exact l.b)
  refine ⟨x.keep p o l.h fun w => ?_, ?_, l.b, l.s, fun q hq k => ?_⟩
  · rcases w with w | ⟨w, w2⟩ | w | w
    · exact hne p w rfl
    · have w2 : p = pd := w2
      cases hq : B.q with
      | none => exact w hq
      | some q => exact l.q q hq (by rw [w2]; exact hp q hq)
    · exact (r.rn p w).2 l.b
    · exact (r.tb p w).2.2 l.b
  · cases q : G' p with
    | none => rfl
    | some o' =>
      rcases x.new p (by rw [q]; simp) with w | w
      · exact absurd l.g w
      · have w : H p = none := w
        rw [l.h] at w; cases w
  · have st := x.st
    cases hS : S' with
    | none => rw [hS] at st; have st : B.q = none := st; rw [st] at hq; cases hq
    | some S =>
      rw [hS] at st
      obtain ⟨q', pd', s1, s2, s3⟩ := st
      have s1 : B.q = some q' := s1
      rw [hq] at s1; cases s1
      have e := k.uni s2.pd
      rcases s3 with s3 | s3
      · have s3 : pd' = pd := s3
        exact l.q q hq (by rw [e, s3]; exact hp q hq)
      · have s3 : H pd' = none := s3
        have := l.h
        rw [e, s3] at this; cases this
end
/-! ### readings that do not lean on the context -/
def canE (Z : Cl) (W : WX) (f : FE) : TE := fun σ H Q => ∃ B G a P E, Rel Z B σ H G a ∧ WOk Z B W E ∧ f E a P ∧ ∀ d a' v H' G', P d a' → Ex G G' → Rel Z B σ H' G' a' → R G' d v → Q v H'
def canT (Z : Cl) (W : WX) (f : FT) : TT := fun σ H Q => ∃ B G a P E, Rel Z B σ H G a ∧ WOk Z B W E ∧ f E a P ∧ ∀ b a' H' G', P b a' → Ex G G' → Rel Z B σ H' G' a' → Q b H'
def canG (Z : Cl) (g : FG) (ws : List Nat) : TG := fun v σ H Q => ∃ B G a d P, Rel Z B σ H G a ∧ R G d v ∧ g d a P ∧ ∀ a' σ', P a' → Rel Z B σ' H G a' → a'.S = a.S → σ'.length = σ.length → (∀ j, j ∉ ws → σ'[j]? = σ[j]?) → Q σ' H
section
variable {X : Cx} {Z : Cl} {W : WX} {e e1 e2 : Expr} {f fe fv : FE} {ft : FT} {g : FG} {ws : List Nat} {ifs : List Expr} {pos : Pos} {fi : FI} {tg elt iter : Expr}
theorem AE.pe (h : AE X Z W e f) : PE X e (canE Z W f) := by
  obtain ⟨t, p, s⟩ := h.ex
  exact ⟨fun pins st σ H Q I ⟨B, G, a, P, E, h1, h2, h3, h4⟩ => p.run pins st σ H Q I (s B σ H G a P Q E h1 h2 h3 h4)⟩
theorem AG.pg (h : AG X Z tg ws g) : PG X tg (canG Z g ws) := by
  obtain ⟨t, p, s⟩ := h.ex
  exact ⟨fun pins st σ H v u Q I r ⟨B, G, a, d, P, h1, h2, h3, h4⟩ => p.run pins st σ H v u Q I r (s B σ H G a d v P Q h1 h2 h3 h4)⟩
/-- the tests of a comprehension: none, or one -/
structure ATs (X : Cx) (Z : Cl) (W : WX) (ifs : List Expr) (f : FT) : Prop where
  ex : ∃ t, PTs X ifs t ∧ ∀ B σ H G a P Q E, Rel Z B σ H G a → WOk Z B W E → f E a P → (∀ b a' H' G', P b a' → Ex G G' → Rel Z B σ H' G' a' → Q b H') → t σ H Q
def tYes : FT := fun _ a P => P true a
theorem ts_nil : ATs X Z W [] tYes := ⟨_, pts_nil, fun B σ H G a P Q E r w h k => k _ _ _ _ h (Ex.refl _) r⟩
theorem ts_one (a : AT X Z W e ft) : ATs X Z W [e] ft := by
  obtain ⟨t, p, s⟩ := a.ex
  exact ⟨t, pts_one p, s⟩
theorem ATs.pt (h : ATs X Z W ifs ft) : PTs X ifs (canT Z W ft) := by
  obtain ⟨t, p, s⟩ := h.ex
  exact ⟨fun pins st σ H Q I ⟨B, G, a, P, E, h1, h2, h3, h4⟩ => p.run pins st σ H Q I (s B σ H G a P Q E h1 h2 h3 h4)⟩
abbrev W0 : WX := fun _ _ _ _ => False
abbrev E0A : XA := fun _ _ => False
theorem wok0 {B : Base} : WOk Z B W0 E0A := fun _ _ _ _ _ _ _ _ h _ => h
/-! ### list comprehensions -/
def lcA (g : FG) (ft : FT) (fe : FE) (vs : List Nat) : List D → A → List D → (List D → Option Stk → Prop) → Prop
  | [], a, acc, P => P acc a.S
  | d :: ds, a, acc, P => g d (a.hide.offs vs) fun a1 => ft E0A a1 fun b a2 => if b = true then fe E0A a2 fun y a3 => acc.length < sizeLine ∧ lcA g ft fe vs ds ⟨a.ρ, a3.S⟩ (acc ++ [y]) P else lcA g ft fe vs ds ⟨a.ρ, a2.S⟩ acc P
def fLc (fi : FI) (g : FG) (ft : FT) (fe : FE) (vs : List Nat) : FE := fun E a P => fi E a fun ds a' => lcA g ft fe vs ds a' [] fun acc S => P (.lst acc) ⟨a'.ρ, S⟩
theorem snd_lc {ti : TI} {vs : List Nat} (hw : ∀ j ∈ ws, j ∈ vs) (si : ∀ B σ H G a P Q E, Rel Z B σ H G a → WOk Z B W E → fi E a P → (∀ ds a' H' G' J, P ds a' → Ex G G' → Rel Z B σ H' G' a' → IterOk G' J ds → Q J H') → ti σ H Q) :
    ∀ B σ H G a P Q E, Rel Z B σ H G a → WOk Z B W E → fLc fi g ft fe vs E a P → (∀ d a' v H' G', P d a' → Ex G G' → Rel Z B σ H' G' a' → R G' d v → Q v H') → tLc ti (canG Z g ws) (canT Z W0 ft) (canE Z W0 fe) vs σ H Q := fun B σ H G a P Q E r w h k => by
  refine si B σ H G a _ _ _ r w h fun ds a1 H1 G1 J h1 e1 r1 it => ?_
  intro Dl hDl
  obtain ⟨Gd, Y, wk, gd, yl⟩ := it
  have rh := r1.here
  refine lc_it wk (fun i H => ∃ G a2 acc us, a2.ρ = a1.ρ ∧ Rel Z { B with GK := G1 } σ H G a2 ∧ Loose { B with GK := G1 } σ H G a1.ρ Dl (.lst us) ∧ Rs G acc us ∧ lcA g ft fe vs (ds.drop i) a2 acc fun acc S => P (.lst acc) ⟨a1.ρ, S⟩)
    ⟨G1, a1, [], [], rfl, rh.unknown hDl, rh.loose hDl, rfl, h1⟩ (fun i H _ ⟨G, a, _, _, _, r, _⟩ => gd H (r.gk.trans r.gh)) ?_ ?_
  · rintro i x H H' hi ⟨G, a2, acc, us, ea, r, l, ra, q⟩ y
    obtain ⟨d, hd, hx⟩ := yl i H x H' hi (r.gk.trans r.gh) y
    have ed : ds.drop i = d :: ds.drop (i + 1) := by
      rw [List.drop_eq_getElem_cons hi]
      congr 1
      exact (List.getElem?_eq_some_iff.mp hd).2
    rw [ed] at q
    have go : ∀ (H2 G2 : Hp) (x : V), Ex G G2 → Rel Z { B with GK := G1 } σ H2 G2 a2 → Loose { B with GK := G1 } σ H2 G2 a1.ρ Dl (.lst us) → R G2 d x → canG Z g ws x (L2.wipe σ vs) H2 fun σ2 H2 => L2.wipe σ2 vs = L2.wipe σ vs ∧ canT Z W0 ft σ2 H2 fun b H3 =>
        if b = true then canE Z W0 fe σ2 H3 fun y H4 => ∃ acc, H4 Dl = some (.lst acc) ∧ acc.length < sizeLine ∧ (∃ G a2 acc' us, a2.ρ = a1.ρ ∧ Rel Z { B with GK := G1 } σ (upd H4 Dl (.lst (acc ++ [y]))) G a2 ∧ Loose { B with GK := G1 } σ (upd H4 Dl (.lst (acc ++ [y]))) G a1.ρ Dl (.lst us) ∧ Rs G acc' us ∧ lcA g ft fe vs (ds.drop (i + 1)) a2 acc' fun acc S => P (.lst acc) ⟨a1.ρ, S⟩)
        else ∃ G a2 acc' us, a2.ρ = a1.ρ ∧ Rel Z { B with GK := G1 } σ H3 G a2 ∧ Loose { B with GK := G1 } σ H3 G a1.ρ Dl (.lst us) ∧ Rs G acc' us ∧ lcA g ft fe vs (ds.drop (i + 1)) a2 acc' fun acc S => P (.lst acc) ⟨a1.ρ, S⟩ := fun H2 G2 x e2 r2 l2 hv => by
      obtain ⟨pd, hpd⟩ := r2.pd
      have ra2 := ra.mono e2
      have q : g d (a2.hide.offs vs) (fun a1' => ft E0A a1' fun b a2' => if b = true then fe E0A a2' fun y a3 => acc.length < sizeLine ∧ lcA g ft fe vs (ds.drop (i + 1)) ⟨a2.ρ, a3.S⟩ (acc ++ [y]) fun acc S => P (.lst acc) ⟨a1.ρ, S⟩ else lcA g ft fe vs (ds.drop (i + 1)) ⟨a2.ρ, a2'.S⟩ acc fun acc S => P (.lst acc) ⟨a1.ρ, S⟩) := q
      refine ⟨_, G2, a2.hide.offs vs, d, _, (r2.sub hpd).wipe _, hv, q, fun a3 σ3 q3 r3 s3 len3 n3 => ⟨wipe_back hw len3 n3, ?_⟩⟩
      refine ⟨_, G2, a3, _, E0A, r3, wok0, q3, fun b a4 H4 G4 q4 e4 r4 => ?_⟩
      cases b with
      | true =>
        rw [if_pos rfl] at q4 ⊢
        refine ⟨_, G4, a4, _, E0A, r4, wok0, q4, fun y a5 v5 H5 G5 q5 e5 r5 x5 => ?_⟩
        have l5 := Loose.after r2 hpd (by rw [ea]; exact l2) r5.toRelS
        have r6 := r2.after hpd r5.toRelS
        have b6 := r6.bump (o' := .lst (us ++ [v5])) l5
        refine ⟨us, l5.h, by rw [← ra.len]; exact q5.1, G5, ⟨a2.ρ, a5.S⟩, acc ++ [y], us ++ [v5], ea, b6.1, by rw [← ea]; exact b6.2, ?_, q5.2⟩
        exact (ra2.mono (e4.trans e5)).app (Rs.one x5)
      | false =>
        rw [if_neg Bool.false_ne_true] at q4 ⊢
        exact ⟨G4, ⟨a2.ρ, a4.S⟩, acc, us, ea, r2.after hpd r4.toRelS, by rw [← ea]; exact Loose.after r2 hpd (by rw [ea]; exact l2) r4.toRelS, ra2.mono e4, q4⟩
    rcases hx with ⟨rfl, hx⟩ | ⟨p, o, rfl, hp, rfl, hx⟩
    · exact go H' G x (Ex.refl _) r l (hx.mono r.gk)
    · have hne : Dl ≠ p := fun e => by have := l.h; rw [e, hp] at this; cases this
      have l' : Loose { B with GK := G1 } σ (upd H p o) (upd G p o) a1.ρ Dl (.lst us) := by
        refine ⟨by rw [upd_ne hne]; exact l.h, by rw [upd_ne hne]; exact l.g, l.b, l.s, fun q hq k => l.q q hq ?_⟩
        obtain ⟨C, dx, fs, k1, k2⟩ := k
        rw [upd_ne (fun e => r.qh q hq (by rw [e]; exact hp))] at k1
        exact ⟨C, dx, fs, k1, k2⟩
      exact go _ _ _ (r.ex hp) (r.known hp) l' (hx G r.gk (r.gh.free hp))
  · rintro H ⟨G, a2, acc, us, ea, r, l, ra, q⟩
    rw [List.drop_length] at q
    have rb := r1.there r
    have lb : Loose B σ H G a2.ρ Dl (.lst us) := ⟨l.h, l.g, l.b, by rw [ea]; exact l.s, l.q⟩
    have eg : Ex G (upd G Dl (.lst us)) := Ex.new l.g
    have ea2 : a2 = ⟨a1.ρ, a2.S⟩ := by rw [← ea]
    refine k _ _ _ _ _ q ((e1.trans r.gk).trans eg) (by rw [← ea2]; exact rb.give lb) ⟨Dl, us, rfl, upd_same, ra.mono eg⟩
theorem alc {scope : Scope} {own : List (Str × Nat)} (hc : X.calm = true) (hN : X.N.Nodup) (i : AI X Z W tg iter fi) (ok : BlkOk X.N X.env.scope scope own) (hw : ∀ j ∈ ws, j ∈ own.map (·.2))
    (hg : ∀ (s : Shared) (H : Hp) (C : Addr) (cl : List (Str × Addr)) (fp : List Addr), AG (X.blk s H scope (compEnvC scope cl C X.env) fp) Z tg ws g)
    (ht : ∀ (s : Shared) (H : Hp) (C : Addr) (cl : List (Str × Addr)) (fp : List Addr), ATs (X.blk s H scope (compEnvC scope cl C X.env) fp) Z W0 ifs ft)
    (he : ∀ (s : Shared) (H : Hp) (C : Addr) (cl : List (Str × Addr)) (fp : List Addr), AE (X.blk s H scope (compEnvC scope cl C X.env) fp) Z W0 elt fe) (hs : ∀ x, foldedSetIterable iter X.env x = pure x := by intro _; rfl) :
    AE X Z W (.ListComp elt [⟨tg, iter, ifs, 0⟩] scope pos) (fLc fi g ft fe (own.map (·.2))) := by
  obtain ⟨ti, pi, si⟩ := i.ex
  exact ⟨_, pe_lc hc hN pi ok (fun s H C cl fp => (hg s H C cl fp).pg) (fun s H C cl fp => (ht s H C cl fp).pt) (fun s H C cl fp => (he s H C cl fp).pe) hs, snd_lc hw si⟩
end
end Ab


namespace Ab
open PySem L2
/-- the classes of errors as the text has them -/
structure Errs (P : Program) (K : PySem.W.Frag) (mg : Str → Option Value) (Z : Cl) : Prop where
  no : PySem.W.excIn K Z.noSuch [.type "ValueError", .type "Exception", .type "BaseException", .type "object"] "ValueError.__new__" = true
  noG : mg "NoSuch" = some (.ref Z.noSuch)
  noK : PySem.W.keepIn K (.ref Z.noSuch) = true
  noB : PySem.W.subIn K (.ref Z.noSuch) (.type "BaseException") = some true
  noT : PySem.W.typeIn K (.ref Z.noSuch) = some (.type "type")
  cf : ∃ qual fI, PySem.Vx.ErrTxt P K mg "Conflict" "paths" qual Z.conflict fI
  rf : ∃ qual fI, PySem.Vx.ErrTxt P K mg "Refused" "branch" qual Z.refused fI
  nm : ∃ qual fI, PySem.Vx.ErrTxt P K mg "InvalidName" "name" qual Z.invName fI
section
variable {X : Cx} {Z : Cl} {W : WX} {e e1 e2 e3 : Expr} {es : List Expr} {f g h : FE} {fn : FN} {fa : FA} {F : FD} {n k k' : Nat} {u w : FQ} {pos pos' apos p p2 : Pos} {i j : Nat} {x y m : Str}
theorem hu64 {k : Nat} {A : Around} (hr : Room k A) : A.units + 64 < cLine := by have := hr.un; omega
theorem hu2 {k : Nat} {A : Around} (hr : Room k A) : A.units + 1 < cLine := by have := hr.un; omega
theorem s_no (Te : Errs X.prog X.K X.mg Z) (hc : X.calm = true) (tk : Takes X W) (hg : Gl X "NoSuch") : AS X Z W (.Raise (some (.Call (.Name "NoSuch" p) [] [] pos')) none pos) sRaise0 :=
  s_raise0 PySem.F.excBase_ValueError Te.no Te.noG Te.noK (raises_own Te.noB Te.noT) hc tk hg
theorem s_cf (Te : Errs X.prog X.K X.mg Z) (hr : Room k X.A) (hc : X.calm = true) (tk : Takes X W) (a : AE X Z W e f) (hg : Gl X "Conflict")
    (hs : starEach [e] X.env = (false, eval e X.env) :: starEach [] X.env := by rfl) (hpl : (backTo pos' (starEach [] X.env)).any (·.1) = false := by rfl) : AS X Z W (.Raise (some (.Call (.Name "Conflict" p) [e] [] pos')) none pos) (sRaiseE erConf f) := by
  obtain ⟨q, fI, T⟩ := Te.cf
  exact s_conf T hr hc tk a hg hs hpl
theorem s_rf (Te : Errs X.prog X.K X.mg Z) (hr : Room k X.A) (hc : X.calm = true) (tk : Takes X W) (a : AE X Z W e f) (hg : Gl X "Refused")
    (hs : starEach [e] X.env = (false, eval e X.env) :: starEach [] X.env := by rfl) (hpl : (backTo pos' (starEach [] X.env)).any (·.1) = false := by rfl) : AS X Z W (.Raise (some (.Call (.Name "Refused" p) [e] [] pos')) none pos) (sRaiseE erRef f) := by
  obtain ⟨q, fI, T⟩ := Te.rf
  exact s_refu T hr hc tk a hg hs hpl
theorem s_in (Te : Errs X.prog X.K X.mg Z) (hr : Room k X.A) (hc : X.calm = true) (tk : Takes X W) (a : AE X Z W e f) (hg : Gl X "InvalidName")
    (hs : starEach [e] X.env = (false, eval e X.env) :: starEach [] X.env := by rfl) (hpl : (backTo pos' (starEach [] X.env)).any (·.1) = false := by rfl) : AS X Z W (.Raise (some (.Call (.Name "InvalidName" p) [e] [] pos')) none pos) (sRaiseE erName f) := by
  obtain ⟨q, fI, T⟩ := Te.nm
  exact s_name T hr hc tk a hg hs hpl
/-- methods of the stack -/
theorem ams0 (i : Nat) {pl : Sem Bool} {nm : Str} (T : StkTxt X.K Z) (Dn : Mtd X.prog X.w X.K X.mg X.base Z k m n F) (hr : Room k' X.A) (hk : k ≤ k') (tk : Takes X W)
    (hmn : ∀ vb vw vp j, (flds vb vw vp j).lookup m = none := by intro _ _ _ _; rfl) (hN : X.N[i]? = some nm := by rfl) (hv : Vis X.env.scope nm := by first | exact Or.inl rfl | exact Or.inr (Or.inl rfl) | exact Or.inr (Or.inr rfl)) (hd : (nm == ("__debug__" : Str)) = false := by decide)
    (hcd : (nm == ("__classdict__" : Str)) = false := by decide)
    (ht : eval (.Call (.Attribute (.Name nm p2) m apos) [] [] pos) X.env = (do let ov ← eval (.Name nm p2) X.env; standAt apos.atName; let (f, first) ← holding [ov] (getMethod ov m pl); callWith pos f first (backTo pos (starEach [] X.env)) (backToKw pos (keywordEach [] X.env))) := by rfl) :
    AE X Z W (.Call (.Attribute (.Name nm p2) m apos) [] [] pos) (fMeth i n F fNil) := by
  obtain ⟨f, fd, ps, h1, h2, h3⟩ := Dn.ex
  exact amth0 i T h2 h1 (hr.mono hk) h3 tk hmn hN hv hd hcd ht
theorem ams (i : Nat) {pl : Sem Bool} {nm : Str} (T : StkTxt X.K Z) (Dn : Mtd X.prog X.w X.K X.mg X.base Z k m n F) (hr : Room k' X.A) (hk : k ≤ k') (tk : Takes X W) (b : AA X Z W (e :: es) fa)
    (hmn : ∀ vb vw vp j, (flds vb vw vp j).lookup m = none := by intro _ _ _ _; rfl) (hN : X.N[i]? = some nm := by rfl) (hv : Vis X.env.scope nm := by first | exact Or.inl rfl | exact Or.inr (Or.inl rfl) | exact Or.inr (Or.inr rfl)) (hd : (nm == ("__debug__" : Str)) = false := by decide)
    (hcd : (nm == ("__classdict__" : Str)) = false := by decide) (he : starEach (e :: es) X.env = (false, eval e X.env) :: starEach es X.env := by rfl) (hpl : (backTo pos (starEach es X.env)).any (·.1) = false := by rfl)
    (ht : eval (.Call (.Attribute (.Name nm p2) m apos) (e :: es) [] pos) X.env = (do let ov ← eval (.Name nm p2) X.env; standAt apos.atName; let (f, first) ← holding [ov] (getMethod ov m pl); callWith pos f first (backTo pos (starEach (e :: es) X.env)) (backToKw pos (keywordEach [] X.env))) := by rfl) :
    AE X Z W (.Call (.Attribute (.Name nm p2) m apos) (e :: es) [] pos) (fMeth i n F fa) := by
  obtain ⟨f, fd, ps, h1, h2, h3⟩ := Dn.ex
  exact amth i T h2 h1 (hr.mono hk) h3 tk b hmn hN hv hd hcd he hpl ht
/-- [v] * n, new -/
def nRep (f g : FE) : FN := fun E a P => f E a fun x a1 => g E a1 fun y a2 => match y with
  | .int n => 0 ≤ n ∧ n ≤ sizeLine ∧ P (.owl (List.replicate n.toNat x)) a2
  | _ => False
theorem arep {lp : Pos} (a : AE X Z W e1 f) (b : AE X Z W e2 g) (hs : starEach [e1] X.env = (false, eval e1 X.env) :: starEach [] X.env := by rfl) : AN X Z W (.BinOp (.List [e1] lp) .Mult e2 pos) (nRep f g) := by
  obtain ⟨ta, pa, sa⟩ := a.ex
  obtain ⟨tb, pb, sb⟩ := b.ex
  refine ⟨_, pe_op op_rep (pe_lst (pa_cons pa pa_nil hs)) pb, fun B σ H G a P Q E r w h k => sa B σ H G a _ _ E r w h fun x a1 v H1 G1 h1 e1 r1 x1 => ⟨by show 1 ≤ sizeLine; rw [sizeLine_eq]; omega, fun l hl => ?_⟩⟩
  have k1 := r1.known (o := .lst [v]) hl
  have eg := r1.ex (o := .lst [v]) hl
  refine sb B σ _ _ a1 _ _ E k1 w h1 fun y a2 u H2 G2 h2 e2 r2 y2 => ?_
  cases y with
  | int n =>
    obtain ⟨h3, h4, h5⟩ := h2
    have hz : sizeLine = 16777216 := sizeLine_eq
    rw [hz] at h4
    refine ⟨l, n, [v], rfl, y2, r2.gh _ _ (e2 _ _ upd_same), by omega, by omega, ?_, fun p hp => ?_⟩
    · rw [List.length_singleton, Nat.one_mul, hz]; omega
    · rw [flat_rep]
      exact k _ _ _ _ _ _ h5 ((e1.trans eg).trans e2) r2 hp (show NewR G2 (.owl (List.replicate n.toNat x)) (.lst (List.replicate n.toNat v)) from Rs.rep ((x1.mono eg).mono e2) _)
  | _ => exact h2.elim
/-- x, y = a, b where the pair is made -/
theorem s_parT (i j : Nat) {px py pt : Pos} {kt k2 pt2} (a : AE X Z W e1 f) (b : AE X Z W e2 g) (hc : X.calm = true) (hN : X.N.Nodup) (hi : X.N[i]? = some x := by rfl) (hj : X.N[j]? = some y := by rfl)
    (hx : Loc X.env.scope x := by first | exact Or.inl rfl | exact Or.inr rfl) (hy : Loc X.env.scope y := by first | exact Or.inl rfl | exact Or.inr rfl)
    (f1 : X.fn x = true ∨ X.env.scope.names.lookup x = some .local := by first | exact .inl rfl | exact .inr rfl) (f2 : X.fn y = true ∨ X.env.scope.names.lookup y = some .local := by first | exact .inl rfl | exact .inr rfl)
    (h1 : starEach [e1, e2] X.env = (false, eval e1 X.env) :: starEach [e2] X.env := by rfl) (h2 : starEach [e2] X.env = (false, eval e2 X.env) :: starEach [] X.env := by rfl)
    (g2 : (assignEach [.Name y py] X.env).map (·.2) = assign (.Name y py) X.env :: (assignEach [] X.env).map (·.2) := by rfl)
    (g1 : (assignEach [.Name x px, .Name y py] X.env).map (·.2) = assign (.Name x px) X.env :: (assignEach [.Name y py] X.env).map (·.2) := by rfl)
    (hn : (assignEach [.Name x px, .Name y py] X.env).length = 2 := by rfl) (hst : (assignEach [.Name x px, .Name y py] X.env).findIdx? (·.1) = none := by rfl)
    (hs : swapsWithSole [.Tuple [.Name x px, .Name y py] kt pt] (.Tuple [e1, e2] k2 pt2) pos.line X.env = pure false := by rfl) (hw : swappedStores [.Tuple [.Name x px, .Name y py] kt pt] (.Tuple [e1, e2] k2 pt2) X.env = pure none := by rfl)
    (ha : (assignEach [.Tuple [.Name x px, .Name y py] kt pt] X.env).map (·.2) = [assign (.Tuple [.Name x px, .Name y py] kt pt) X.env] := by rfl) :
    AS X Z W (.Assign [.Tuple [.Name x px, .Name y py] kt pt] (.Tuple [e1, e2] k2 pt2) pos) (sPar i j f g) := by
  obtain ⟨ta, pa, sa⟩ := a.ex
  obtain ⟨tb, pb, sb⟩ := b.ex
  refine ⟨_, ps_asg (pe_tup (pa_cons pa (pa_cons pb pa_nil h2) h1)) (pg_tup hc (pgs_cons (pg_name hN hi hx f1) (pgs_cons (pg_name hN hj hy f2) pgs_nil g2) g1) hn hst) hs hw ha,
    fun B σ H G a Dn En r w k h => sa B σ H G a _ _ _ r w h fun d a1 v H1 G1 h1 e1 r1 x1 => sb B σ H1 G1 a1 _ _ _ r1 w h1 fun d' a2 v' H2 G2 h2 e2 r2 x2 => ⟨by show 2 ≤ sizeLine; rw [sizeLine_eq]; omega, fun T hT => ?_⟩⟩
  exact ⟨T, _, rfl, SqT.of upd_same, rfl, v, _, rfl, v', _, rfl, rfl, k.nx _ _ _ _ (((r2.unknown hT).setIm (x1.mono e2)).setIm x2) h2⟩
end
end Ab


namespace Ab
open PySem L2
/-! ### walks by an invariant -/
theorem forA_inv {g : FG} {fs : FS} {En : AEnds} {α : Type} (mk : α → D) (Inv : List α → A → Prop) (hs : ∀ x r a (N : A → Prop), Inv (x :: r) a → (∀ a, Inv r a → N a) → g (mk x) a fun a1 => fs { En with nx := N, ct := N, bk := En.nx } a1) (hd : ∀ a, Inv [] a → En.nx a) :
    ∀ (l : List α) (a : A), Inv l a → forA g fs (l.map mk) En a
  | [], a, h => hd a h
  | x :: r, a, h => hs x r a _ h fun a' h' => forA_inv mk Inv hs hd r a' h'
theorem sz3 {n : Nat} (h : n ≤ 1000 := by decide) : n ≤ sizeLine := by rw [sizeLine_eq]; omega
theorem numb_map {α : Type} (f : α → D) (l : List α) : numb (l.map f) = l.zipIdx.map fun e => .tup [.int (e.2 : Nat), f e.1] := by
  unfold numb
  rw [List.zipIdx_map, List.map_map]
  rfl
/-! ### lines cut -/
def cut {α : Type} (l : List α) (a b : Int) : List α := (l.drop a.toNat).take (b.toNat - a.toNat)
theorem cut_map {α β : Type} (f : α → β) (l : List α) (a b : Int) : (cut l a b).map f = cut (l.map f) a b := by
  unfold cut
  rw [List.map_take, List.map_drop]
theorem sIx_some {n d : Nat} {a : Int} (h : 0 ≤ a) : HT.sIx n d (some a) = min a.toNat n := by
  show (if a < 0 then (a + (n : Int)).toNat else min a.toNat n) = _
  rw [if_neg (by omega)]
theorem cutD_eq {ds : List D} {a b : Int} (ha : 0 ≤ a) (hb : 0 ≤ b) : cutD ds (some a) (some b) = cut ds a b := by
  unfold cutD cut
  rw [sIx_some ha, sIx_some hb]
  by_cases h1 : ds.length ≤ a.toNat
  · rw [List.drop_eq_nil_of_le (i := min a.toNat ds.length) (by omega), List.drop_eq_nil_of_le h1, List.take_nil, List.take_nil]
  · have e1 : min a.toNat ds.length = a.toNat := Nat.min_eq_left (by omega)
    rw [e1]
    by_cases h2 : ds.length ≤ b.toNat
    · rw [Nat.min_eq_right h2, List.take_of_length_le (by rw [List.length_drop]; omega), List.take_of_length_le (by rw [List.length_drop]; omega)]
    · rw [Nat.min_eq_left (by omega)]
theorem cutD_end {ds : List D} {a : Int} (ha : 0 ≤ a) : cutD ds (some a) none = ds.drop a.toNat := by
  unfold cutD
  rw [sIx_some ha, HT.sIx_none, List.take_of_length_le (by rw [List.length_drop]; omega)]
  by_cases h1 : ds.length ≤ a.toNat
  · rw [List.drop_eq_nil_of_le (by omega), List.drop_eq_nil_of_le h1]
  · rw [Nat.min_eq_left (by omega)]
theorem cut_len {α : Type} {l : List α} {a b : Int} : (cut l a b).length ≤ l.length := by
  unfold cut
  rw [List.length_take, List.length_drop]
  omega
theorem strs_inj : ∀ {l m : List Str}, l.map D.str = m.map D.str → l = m
  | [], [], _ => rfl
  | [], _ :: _, h => by cases h
  | _ :: _, [], h => by cases h
  | a :: l, b :: m, h => by
    rw [List.map_cons, List.map_cons] at h
    injection h with h1 h2
    injection h1 with h1
    rw [h1, strs_inj h2]
theorem strsD_inj {l m : List Str} (h : strsD l = strsD m) : l = m := by
  unfold strsD at h
  injection h with h
  exact strs_inj h
/-- lines whose signs are signs -/
def okL (l : List Str) : Prop := ∀ s ∈ l, PyData.strOk s = true
theorem okL_cmps : ∀ {l : List Str} {n : Nat}, okL l → cmps n (l.map D.str) = true
  | [], _, _ => by simp [cmps]
  | s :: l, n, h => by
    have h1 := h s List.mem_cons_self
    have h2 := okL_cmps (n := n) (fun t ht => h t (List.mem_cons_of_mem _ ht) : okL l)
    simp [cmps, cmp, h1, h2]
theorem okL_cmp {l : List Str} {n : Nat} (h : okL l) : cmp (n + 1) (strsD l) = true := by
  show cmps n (l.map D.str) = true
  exact okL_cmps h
theorem okL.cut {l : List Str} (h : okL l) (a b : Int) : okL (cut l a b) := fun s hs => h s (List.mem_of_mem_drop (List.mem_of_mem_take hs))
theorem same_strs {l m : List Str} : same (strsD l) (strsD m) = decide (l = m) := same_of (by rw [decide_eq_true_iff]; exact ⟨fun e => by rw [e], strsD_inj⟩)
/-! ### patches put on -/
def fits (l : List Str) (h : Hk) : Bool := decide (h.s ≤ l.length) && decide (cut l h.s (h.s + h.g.length) = h.g)
def glue (l : List Str) : Int → List Hk → List Str → List Str
  | here, [], acc => acc ++ l.drop here.toNat
  | here, h :: r, acc => glue l (h.s + h.g.length) r (acc ++ cut l here h.s ++ h.c)
def putOn (l : List Str) (p : List Hk) : Option (List Str) := if p.all (fits l) then some (glue l 0 p []) else none
def csum (p : List Hk) : Nat := (p.map fun h => h.c.length).sum
def gsum (p : List Hk) : Nat := (p.map fun h => h.g.length).sum
/-- starts are not negative; lines are lines -/
structure Fine (p : List Hk) : Prop where
  s : ∀ h ∈ p, 0 ≤ h.s
  g : ∀ h ∈ p, okL h.g
  c : ∀ h ∈ p, okL h.c
theorem Fine.tail {h : Hk} {r : List Hk} (f : Fine (h :: r)) : Fine r := ⟨fun k hk => f.s k (List.mem_cons_of_mem _ hk), fun k hk => f.g k (List.mem_cons_of_mem _ hk), fun k hk => f.c k (List.mem_cons_of_mem _ hk)⟩
/-- short enough for the machine -/
def Short (l : List Str) (p : List Hk) : Prop := (p.length + 1) * l.length + csum p + p.length < sizeLine
def fPutOn : FD := fun EA xs S P => ∃ l p, xs = [.im (strsD l), .im (paD p)] ∧ okL l ∧ Fine p ∧ Short l p ∧ (∀ m, putOn l p = some m → P (strsD m) S) ∧ (putOn l p = none → EA .conflict S)
section
variable {P : Program} {w : World} {K : PySem.W.Frag} {mg : Str → Option Value} {base : Heap} {Z : Cl}
abbrev s_put_on : Stmt := top 8
abbrev n_put_on : List Str := ["lines", "patch", "wrong", "number", "start", "gone", "_", "found", "here", "come"]
theorem sc_put_on : FnScope n_put_on ["lines", "patch"] (defScope s_put_on) := ⟨rfl, rfl, rfl, by decide +kernel, rfl, by decide +kernel, by decide +kernel⟩
theorem ok_put_on {f : Addr} {fd : FuncData} (Fn : Fun K "put_on" "put_on" s_put_on f fd) (Tb : Blt mg) (Te : Errs P K mg Z) : FnOk P w K mg base (L2.CX P w) 1 f fd ["lines", "patch"] (spA Z 2 fPutOn) := by
  refine aok Fn sc_put_on rfl fun cdv A outer s H E hr => ?_
  have hp := passes_of (X := cxOf (L2.CX P w) P w K mg base n_put_on "put_on" (defScope s_put_on) f cdv A outer s H E) rfl
  have tk := takes_of (X := cxOf (L2.CX P w) P w K mg base n_put_on "put_on" (defScope s_put_on) f cdv A outer s H E) rfl rfl rfl rfl
  have hu := hu64 hr
  refine ⟨_, (ss_cons (s_own 2 (alst aa_nil) sc_put_on.nd)
    (ss_cons (s_for hp rfl (i_e (av 1) Tb.enumerate (by rfl)) (g_tp rfl (gs_cons (g_nm 3 sc_put_on.nd) (gs_cons (g_tp rfl (gs_cons (g_nm 4 sc_put_on.nd) (gs_cons (g_nm 5 sc_put_on.nd) (gs_cons (g_nm 6 sc_put_on.nd) gs_nil))) (gl1 (gl1 (gl1 gl0)))) gs_nil)) (gl1 (gl2 gl0 (gm1 (gm1 (gm1 gm0))))))
      (ss_one (s_if (wor (tcmp ao_gt (av 4) (alen (av 0) Tb.len (by rfl)) (nomark _)) (wor1 (tcmp (ao_ne hu) (atpl (asl (av 0) (oso (av 4)) (oso (ao ao_add (av 4) (alen (av 5) Tb.len (by rfl))))) Tb.tuple (by rfl)) (av 5) (nomark _)))).at
        (ss_one (s_app 2 (av 3)))
        ss_nil)))
    (ss_cons (s_if (ttru (lv 2))
      (ss_one (s_cf Te hr rfl tk (atplL (lv 2) Tb.tuple (by rfl)) (by rfl)))
      ss_nil)
    (ss_cons (s_parT 7 8 (atup aa_nil) ai rfl sc_put_on.nd)
    (ss_cons (s_for hp rfl (i_t (av 1)) (g_tp rfl (gs_cons (g_nm 4 sc_put_on.nd) (gs_cons (g_nm 5 sc_put_on.nd) (gs_cons (g_nm 9 sc_put_on.nd) gs_nil))) (gl1 (gl1 (gl1 gl0))))
      (ss_cons (s_set 7 (ao ao_add (ao ao_add (av 7) (atpl (asl (av 0) (oso (av 8)) (oso (av 4))) Tb.tuple (by rfl))) (av 9)) sc_put_on.nd)
      (ss_one (s_set 8 (ao ao_add (av 4) (alen (av 5) Tb.len (by rfl))) sc_put_on.nd))))
    (ss_one (s_ret (ao ao_add (av 7) (atpl (asl (av 0) (oso (av 8)) ono) Tb.tuple (by rfl)))))))))), fun EA xs S Q h hn => ?_⟩
  obtain ⟨l, p, rfl, ol, fp, sh, k1, k2⟩ := h
  have hl : (l.map D.str).length = l.length := List.length_map _
  have hz : p.length < sizeLine := by unfold Short at sh; omega
  refine ⟨Nat.zero_le _, ?_⟩
  show forA _ _ (numb (p.map hkD)) _ _
  rw [numb_map]
  refine forA_inv _ (fun r a => ∃ (q : List Hk) (wr : List D) (r3 r4 r5 r6 : Option AV), p = q ++ r.map (·.1) ∧ wr.length ≤ q.length ∧ wr.isEmpty = q.all (fits l) ∧ a = ⟨[some (.im (strsD l)), some (.im (paD p)), some (.owl wr), r3, r4, r5, r6, none, none, none], S⟩) ?_ ?_ _ _ ⟨[], [], none, none, none, none, by simp [List.zipIdx_map_fst], Nat.le_refl _, rfl, rfl⟩
  · rintro ⟨h, n⟩ r a N ⟨q, wr, r3, r4, r5, r6, ep, hw, he, rfl⟩ hN
    have hm : h ∈ p := by rw [ep]; simp
    have e1 : cutD (l.map D.str) (some h.s) (some (h.s + (h.g.map D.str).length)) = (cut l h.s (h.s + h.g.length)).map D.str := by
      rw [List.length_map, cutD_eq (fp.s h hm) (by have := fp.s h hm; omega), cut_map]
    have fin : ∀ b : Bool, b = !fits l h → ∀ (r3 r4 r5 r6 : Option AV), (if b = true then wr.length < sizeLine ∧ N ⟨[some (.im (strsD l)), some (.im (paD p)), some (.owl (wr ++ [D.int (n : Nat)])), some (.im (.int (n : Nat))), r4, r5, r6, none, none, none], S⟩ else N ⟨[some (.im (strsD l)), some (.im (paD p)), some (.owl wr), some (.im (.int (n : Nat))), r4, r5, r6, none, none, none], S⟩) := fun b hb r3 r4 r5 r6 => by
      have el : q.length < p.length := by rw [ep]; simp
      cases b with
      | true =>
        rw [if_pos rfl]
        refine ⟨by omega, hN _ ⟨q ++ [h], wr ++ [D.int (n : Nat)], _, _, _, _, by rw [ep]; simp, by simp; omega, ?_, rfl⟩⟩
        have : fits l h = false := by cases e : fits l h <;> simp_all
        simp [this]
      | false =>
        rw [if_neg Bool.false_ne_true]
        refine hN _ ⟨q ++ [h], wr, _, _, _, _, by rw [ep]; simp, by simp; omega, ?_, rfl⟩
        have : fits l h = true := by cases e : fits l h <;> simp_all
        simp [this, he]
    refine ite2 (fun hc => ?_) (fun hc => ?_)
    · refine fin true ?_ none _ _ _
      have hc : (((l.map D.str).length : Nat) : Int) < h.s := by simpa using hc
      rw [hl] at hc
      unfold fits
      simp [show ¬ h.s ≤ (l.length : Int) by omega]
    · have hc : ¬ (((l.map D.str).length : Nat) : Int) < h.s := by simpa using hc
      rw [hl] at hc
      refine ⟨?_, okL_cmp (n := 8) (fp.g h hm), ?_⟩
      · show cmp 9 (.tup (cutD (l.map D.str) (some h.s) (some (h.s + (h.g.map D.str).length)))) = true
        rw [e1]
        exact okL_cmp (n := 8) (ol.cut _ _)
      · show (if (!same (.tup (cutD (l.map D.str) (some h.s) (some (h.s + (h.g.map D.str).length)))) (strsD h.g)) = true then _ else _)
        rw [e1]
        refine fin _ ?_ none _ _ _
        have := same_strs (l := cut l h.s (h.s + h.g.length)) (m := h.g)
        unfold strsD at this ⊢
        rw [this]
        unfold fits
        simp [show h.s ≤ (l.length : Int) by omega]
  · rintro a ⟨q, wr, r3, r4, r5, r6, ep, hw, he, rfl⟩
    have ep : p = q := by simpa using ep
    subst ep
    refine ite2 (fun hc => ?_) (fun hc => ?_)
    · refine ⟨.conflict, rfl, k2 ?_⟩
      unfold putOn
      rw [← he, if_neg (by simpa using hc)]
    · have hall : p.all (fits l) = true := by rw [← he]; simpa using hc
      refine ⟨Nat.zero_le _, ?_⟩
      have hsh : (p.length + 1) * l.length + csum p < sizeLine := by unfold Short at sh; omega
      refine forA_inv hkD (fun r a => ∃ (here : Int) (acc : List Str) (d : D) (r2 r3 r4 r5 r6 r9 : Option AV), d = strsD acc ∧ (∀ h ∈ r, h ∈ p) ∧ 0 ≤ here ∧ glue l here r acc = glue l 0 p [] ∧ acc.length + (r.length + 1) * l.length + csum r ≤ (p.length + 1) * l.length + csum p ∧
        a = ⟨[some (.im (strsD l)), some (.im (paD p)), r2, r3, r4, r5, r6, some (.im d), some (.im (.int here)), r9], S⟩) ?_ ?_ p _ ⟨0, [], _, _, _, _, _, _, _, rfl, fun _ h => h, Int.le_refl _, rfl, by simp, rfl⟩
      · rintro h r a N ⟨here, acc, _, r2, r3, r4, r5, r6, r9, rfl, hm, hh, eg, hs, rfl⟩ hN
        have hp := hm h List.mem_cons_self
        have h0 := fp.s h hp
        have e1 : cutD (l.map D.str) (some here) (some h.s) = (cut l here h.s).map D.str := by rw [cutD_eq hh h0, cut_map]
        have c1 : (cut l here h.s).length ≤ l.length := cut_len
        have hs' : acc.length + (r.length + 1 + 1) * l.length + (h.c.length + csum r) ≤ (p.length + 1) * l.length + csum p := by simpa [csum] using hs
        have m1 : (r.length + 1 + 1) * l.length = (r.length + 1) * l.length + l.length := by rw [Nat.succ_mul]
        have m2 : l.length ≤ (r.length + 1) * l.length := Nat.le_mul_of_pos_left _ (by omega)
        have z1 : ((acc.map D.str).length + (cutD (l.map D.str) (some here) (some h.s)).length) ≤ sizeLine := by rw [e1, List.length_map, List.length_map]; omega
        have z2 : ((acc.map D.str ++ cutD (l.map D.str) (some here) (some h.s)).length + (h.c.map D.str).length) ≤ sizeLine := by rw [e1, List.length_append, List.length_map, List.length_map, List.length_map]; omega
        refine ⟨z1, z2, ?_⟩
        refine hN _ ⟨h.s + (h.g.map D.str).length, acc ++ cut l here h.s ++ h.c, _, _, _, _, _, _, _, ?_, fun k hk => hm k (List.mem_cons_of_mem _ hk), by omega, ?_, ?_, rfl⟩
        · rw [strsD, List.map_append, List.map_append, ← e1]
        · rw [List.length_map]; exact eg
        · rw [List.length_append, List.length_append]; omega
      · rintro a ⟨here, acc, _, r2, r3, r4, r5, r6, r9, rfl, hm, hh, eg, hs, rfl⟩
        have e1 : cutD (l.map D.str) (some here) none = (l.drop here.toNat).map D.str := by rw [cutD_end hh, List.map_drop]
        have hs' : acc.length + l.length ≤ (p.length + 1) * l.length + csum p := by simpa [csum] using hs
        have z1 : (acc.map D.str).length + (cutD (l.map D.str) (some here) none).length ≤ sizeLine := by rw [e1, List.length_map, List.length_map, List.length_drop]; omega
        refine ⟨z1, ?_⟩
        have := k1 (glue l 0 p []) (by unfold putOn; rw [if_pos hall])
        rw [← eg, glue, strsD, List.map_append, ← e1] at this
        exact this
end
end Ab


namespace Ab
open PySem L2
theorem lcA_inv {g : FG} {ft : FT} {fe : FE} {vs : List Nat} {P : List D → Option Stk → Prop} {α : Type} (mk : α → D) (Inv : List α → A → List D → Prop)
    (hs : ∀ x r a acc (N : A → List D → Prop), Inv (x :: r) a acc → (∀ a acc, Inv r a acc → N a acc) → g (mk x) (a.hide.offs vs) fun a1 => ft E0A a1 fun b a2 => if b = true then fe E0A a2 fun y a3 => acc.length < sizeLine ∧ N ⟨a.ρ, a3.S⟩ (acc ++ [y]) else N ⟨a.ρ, a2.S⟩ acc)
    (hd : ∀ a acc, Inv [] a acc → P acc a.S) : ∀ (l : List α) (a : A) (acc : List D), Inv l a acc → lcA g ft fe vs (l.map mk) a acc P
  | [], a, acc, h => hd a acc h
  | x :: r, a, acc, h => hs x r a acc (fun a acc => lcA g ft fe vs (r.map mk) a acc P) h fun a' acc' h' => lcA_inv mk Inv hs hd r a' acc' h'
/-! ### places -/
def placeA : Int → List Hk → Int → Option Int
  | m, [], x => some (x + m)
  | m, h :: r, x => if x < h.s then some (x + m) else if x ≤ h.s + h.g.length then none else placeA (m + (h.c.length - h.g.length)) r x
def optI : Option Int → D
  | none => .non
  | some i => .int i
def fPlace : FD := fun _ xs S P => ∃ p x, xs = [.im (paD p), .im (.int x)] ∧ P (optI (placeA 0 p x)) S
/-! ### touching -/
def touch (h k : Hk) : Bool := decide (h.s ≤ k.s + k.g.length) && decide (k.s ≤ h.s + h.g.length)
def touchB (p o : List Hk) : Bool := p.any fun h => o.any fun k => touch h k
def fTouch : FD := fun _ xs S P => ∃ p o, xs = [.im (paD p), .im (paD o)] ∧ (touchB p o = false → P .non S) ∧ (touchB p o = true → ∀ i j : Int, P (.tup [.int i, .int j]) S)
/-! ### carried -/
def carL : List Hk → List Hk → Option (List Hk)
  | [], _ => some []
  | h :: r, o => match placeA 0 o h.s, carL r o with
    | some x, some q => some (⟨x, h.g, h.c⟩ :: q)
    | _, _ => none
def fCarried : FD := fun _ xs S P => ∃ p o, xs = [.im (paD p), .im (paD o)] ∧ p.length < sizeLine ∧ ((touchB p o = true ∧ P .non S) ∨ ∃ q, touchB p o = false ∧ carL p o = some q ∧ P (paD q) S)
def fCommuted : FD := fun _ xs S P => ∃ f s, xs = [.im (paD f), .im (paD s)] ∧ f.length < sizeLine ∧ s.length < sizeLine ∧ ((touchB s (back f) = true ∧ P .non S) ∨
  ∃ a b, touchB s (back f) = false ∧ carL s (back f) = some a ∧ touchB f a = false ∧ carL f a = some b ∧ P (.tup [paD a, paD b]) S)
def withinF (p : List Hk) (lo hi : Int) : List Hk := p.filter fun h => decide (lo ≤ h.s) && decide (h.s + h.g.length ≤ hi)
def fWithin : FD := fun _ xs S P => ∃ p lo hi, xs = [.im (paD p), .im (.int lo), .im (.int hi)] ∧ p.length < sizeLine ∧ P (.lst ((withinF p lo hi).map hkD)) S
section
variable {P : Program} {w : World} {K : PySem.W.Frag} {mg : Str → Option Value} {base : Heap} {Z : Cl}
abbrev s_place_after : Stmt := top 10
abbrev n_place_after : List Str := ["patch", "place", "moved", "start", "gone", "come"]
theorem sc_place_after : FnScope n_place_after ["patch", "place"] (defScope s_place_after) := ⟨rfl, rfl, rfl, by decide +kernel, rfl, by decide +kernel, by decide +kernel⟩
theorem ok_place_after {f : Addr} {fd : FuncData} (Fn : Fun K "place_after" "place_after" s_place_after f fd) (Tb : Blt mg) : FnOk P w K mg base (L2.CX P w) 1 f fd ["patch", "place"] (spA Z 2 fPlace) := by
  refine aok Fn sc_place_after rfl fun cdv A outer s H E hr => ?_
  have hp := passes_of (X := cxOf (L2.CX P w) P w K mg base n_place_after "place_after" (defScope s_place_after) f cdv A outer s H E) rfl
  refine ⟨_, (ss_cons (s_set 2 ai sc_place_after.nd)
    (ss_cons (s_for hp rfl (i_t (av 0)) (g_tp rfl (gs_cons (g_nm 3 sc_place_after.nd) (gs_cons (g_nm 4 sc_place_after.nd) (gs_cons (g_nm 5 sc_place_after.nd) gs_nil))) (gl1 (gl1 (gl1 gl0))))
      (ss_cons (s_if (tcmp ao_lt (av 1) (av 3) (nomark _))
        (ss_one (s_ret (ao ao_add (av 1) (av 2))))
        ss_nil)
      (ss_cons (s_if (tcmp ao_le (av 1) (ao ao_add (av 3) (alen (av 4) Tb.len (by rfl))) (nomark _))
        (ss_one (s_ret an))
        ss_nil)
      (ss_one (s_aug 2 ao_iadd (ao ao_sub (alen (av 5) Tb.len (by rfl)) (alen (av 4) Tb.len (by rfl))) sc_place_after.nd)))))
    (ss_one (s_ret (ao ao_add (av 1) (av 2)))))), fun EA xs S Q h hn => ?_⟩
  obtain ⟨p, x, rfl, hk⟩ := h
  refine forA_inv hkD (fun r a => ∃ (m : Int) (r3 r4 r5 : Option AV), placeA m r x = placeA 0 p x ∧ a = ⟨[some (.im (paD p)), some (.im (.int x)), some (.im (.int m)), r3, r4, r5], S⟩) ?_ ?_ p _ ⟨0, _, _, _, rfl, rfl⟩
  · rintro h r a N ⟨m, r3, r4, r5, e, rfl⟩ hN
    rw [placeA] at e
    refine ite2 (fun hc => ?_) (fun hc => ?_)
    · have hc : x < h.s := by simpa using hc
      rw [if_pos hc] at e
      show Q (.int (x + m)) S
      rw [← e] at hk
      exact hk
    · have hc : ¬ x < h.s := by simpa using hc
      rw [if_neg hc] at e
      refine ite2 (fun hd => ?_) (fun hd => ?_)
      · have hd : x ≤ h.s + (((h.g.map D.str).length : Nat) : Int) := by simpa using hd
        rw [List.length_map] at hd
        rw [if_pos hd] at e
        show Q .non S
        rw [← e] at hk
        exact hk
      · have hd : ¬ x ≤ h.s + (((h.g.map D.str).length : Nat) : Int) := by simpa using hd
        rw [List.length_map] at hd
        rw [if_neg hd] at e
        refine hN _ ⟨m + ((((h.c.map D.str).length : Nat) : Int) - (((h.g.map D.str).length : Nat) : Int)), _, _, _, ?_, rfl⟩
        rw [List.length_map, List.length_map]
        exact e
  · rintro a ⟨m, r3, r4, r5, e, rfl⟩
    show Q (.int (x + m)) S
    rw [← e] at hk
    exact hk
abbrev s_do_touch : Stmt := top 11
abbrev n_do_touch : List Str := ["one", "two", "first", "start", "gone", "_", "second", "other", "lost"]
theorem sc_do_touch : FnScope n_do_touch ["one", "two"] (defScope s_do_touch) := ⟨rfl, rfl, rfl, by decide +kernel, rfl, by decide +kernel, by decide +kernel⟩
theorem ok_do_touch {f : Addr} {fd : FuncData} (Fn : Fun K "do_touch" "do_touch" s_do_touch f fd) (Tb : Blt mg) : FnOk P w K mg base (L2.CX P w) 1 f fd ["one", "two"] (spA Z 2 fTouch) := by
  refine aok Fn sc_do_touch rfl fun cdv A outer s H E hr => ?_
  have hp := passes_of (X := cxOf (L2.CX P w) P w K mg base n_do_touch "do_touch" (defScope s_do_touch) f cdv A outer s H E) rfl
  refine ⟨_, (ss_cons (s_for hp rfl (i_e (av 0) Tb.enumerate (by rfl)) (g_tp rfl (gs_cons (g_nm 2 sc_do_touch.nd) (gs_cons (g_tp rfl (gs_cons (g_nm 3 sc_do_touch.nd) (gs_cons (g_nm 4 sc_do_touch.nd) (gs_cons (g_nm 5 sc_do_touch.nd) gs_nil))) (gl1 (gl1 (gl1 gl0)))) gs_nil)) (gl1 (gl2 gl0 (gm1 (gm1 (gm1 gm0))))))
      (ss_one (s_for hp rfl (i_e (av 1) Tb.enumerate (by rfl)) (g_tp rfl (gs_cons (g_nm 6 sc_do_touch.nd) (gs_cons (g_tp rfl (gs_cons (g_nm 7 sc_do_touch.nd) (gs_cons (g_nm 8 sc_do_touch.nd) (gs_cons (g_nm 5 sc_do_touch.nd) gs_nil))) (gl1 (gl1 (gl1 gl0)))) gs_nil)) (gl1 (gl2 gl0 (gm1 (gm1 (gm1 gm0))))))
        (ss_one (s_if (wand (tcmp ao_le (av 3) (ao ao_add (av 7) (alen (av 8) Tb.len (by rfl))) (nomark _)) (wand1 (tcmp ao_le (av 7) (ao ao_add (av 3) (alen (av 4) Tb.len (by rfl))) (nomark _)))).at
          (ss_one (s_ret (atup (aa_cons (av 2) (aa_cons (av 6) aa_nil)))))
          ss_nil)))))
    (ss_one (s_ret an))), fun EA xs S Q h hn => ?_⟩
  obtain ⟨p, o, rfl, k1, k2⟩ := h
  have z2 : 2 ≤ sizeLine := sz3
  show forA _ _ (numb (p.map hkD)) _ _
  rw [numb_map]
  refine forA_inv _ (fun r a => ∃ (q : List Hk) (r2 r3 r4 r5 r6 r7 r8 : Option AV), p = q ++ r.map (·.1) ∧ (∀ h ∈ q, o.any (fun k => touch h k) = false) ∧ a = ⟨[some (.im (paD p)), some (.im (paD o)), r2, r3, r4, r5, r6, r7, r8], S⟩) ?_ ?_ _ _ ⟨[], _, _, _, _, _, _, _, by simp [List.zipIdx_map_fst], by simp, rfl⟩
  · rintro ⟨h, n⟩ r a N ⟨q, r2, r3, r4, r5, r6, r7, r8, ep, hq, rfl⟩ hN
    show forA _ _ (numb (o.map hkD)) _ _
    rw [numb_map]
    refine forA_inv _ (fun r a => ∃ (q : List Hk) (r5 r6 r7 r8 : Option AV), o = q ++ r.map (·.1) ∧ (∀ k ∈ q, touch h k = false) ∧ a = ⟨[some (.im (paD p)), some (.im (paD o)), some (.im (.int (n : Nat))), some (.im (.int h.s)), some (.im (strsD h.g)), r5, r6, r7, r8], S⟩) ?_ ?_ _ _ ⟨[], _, _, _, _, by simp [List.zipIdx_map_fst], by simp, rfl⟩
    · rintro ⟨k, m⟩ r' a N' ⟨q', r5, r6, r7, r8, eo, hq', rfl⟩ hN'
      have go : touch h k = false → N' ⟨[some (.im (paD p)), some (.im (paD o)), some (.im (.int (n : Nat))), some (.im (.int h.s)), some (.im (strsD h.g)), some (.im (strsD k.c)), some (.im (.int (m : Nat))), some (.im (.int k.s)), some (.im (strsD k.g))], S⟩ := fun ht =>
        hN' _ ⟨q' ++ [k], _, _, _, _, by rw [eo]; simp, fun z hz => by rcases List.mem_append.mp hz with hz | hz; exact hq' z hz; rw [List.mem_singleton.mp hz]; exact ht, rfl⟩
      refine ite2 (fun hc => ?_) (fun hc => ?_)
      · have hc : h.s ≤ k.s + (((k.g.map D.str).length : Nat) : Int) := by simpa using hc
        rw [List.length_map] at hc
        refine ite2 (fun hd => ?_) (fun hd => ?_)
        · have hd : k.s ≤ h.s + (((h.g.map D.str).length : Nat) : Int) := by simpa using hd
          rw [List.length_map] at hd
          refine ⟨z2, k2 ?_ _ _⟩
          have ht : touch h k = true := by unfold touch; simp [hc, hd]
          unfold touchB
          rw [List.any_eq_true]
          refine ⟨h, by rw [ep]; simp, List.any_eq_true.mpr ⟨k, by rw [eo]; simp, ht⟩⟩
        · have hd : ¬ k.s ≤ h.s + (((h.g.map D.str).length : Nat) : Int) := by simpa using hd
          rw [List.length_map] at hd
          exact go (by unfold touch; simp [hd])
      · have hc : ¬ h.s ≤ k.s + (((k.g.map D.str).length : Nat) : Int) := by simpa using hc
        rw [List.length_map] at hc
        exact go (by unfold touch; simp [hc])
    · rintro a ⟨q', r5, r6, r7, r8, eo, hq', rfl⟩
      have eo : o = q' := by simpa using eo
      subst eo
      refine hN _ ⟨q ++ [h], _, _, _, _, _, _, _, by rw [ep]; simp, fun z hz => ?_, rfl⟩
      rcases List.mem_append.mp hz with hz | hz
      · exact hq z hz
      · rw [List.mem_singleton.mp hz, List.any_eq_false]
        intro k hk
        rw [hq' k hk]
        simp
  · rintro a ⟨q, r2, r3, r4, r5, r6, r7, r8, ep, hq, rfl⟩
    have ep : p = q := by simpa using ep
    subst ep
    refine k1 ?_
    unfold touchB
    rw [List.any_eq_false]
    intro h hh
    rw [hq h hh]
    simp
abbrev s_carried : Stmt := top 12
abbrev n_carried : List Str := ["patch", "over", "start", "gone", "come"]
theorem sc_carried : FnScope n_carried ["patch", "over"] (defScope s_carried) := ⟨rfl, rfl, rfl, by decide +kernel, rfl, by decide +kernel, by decide +kernel⟩
theorem ok_carried {f : Addr} {fd : FuncData} (Fn : Fun K "carried" "carried" s_carried f fd) (Tb : Blt mg) (D_do_touch : Dfn P w K mg base Z 1 "do_touch" 2 fTouch) (D_place_after : Dfn P w K mg base Z 1 "place_after" 2 fPlace) : FnOk P w K mg base (L2.CX P w) 2 f fd ["patch", "over"] (spA Z 2 fCarried) := by
  refine aok Fn sc_carried rfl fun cdv A outer s H E hr => ?_
  have tk := takes_of (X := cxOf (L2.CX P w) P w K mg base n_carried "carried" (defScope s_carried) f cdv A outer s H E) rfl rfl rfl rfl
  refine ⟨_, (ss_cons (s_if (tcmp ao_notN (acl D_do_touch hr (by decide) tk (aa_cons (av 0) (aa_cons (av 1) aa_nil)) (by rfl)) an (nomark _))
      (ss_one (s_ret an))
      ss_nil)
    (ss_one (s_ret (atpl (alc (own := [("start", 2), ("gone", 3), ("come", 4)]) rfl sc_carried.nd (i_t (av 0)) (blkOk_by (N := n_carried) (sc := defScope s_carried) (by decide +kernel)) (by decide) (fun _ _ _ _ _ => (g_tp rfl (gs_cons (g_nm 2 sc_carried.nd) (gs_cons (g_nm 3 sc_carried.nd) (gs_cons (g_nm 4 sc_carried.nd) gs_nil))) (gl1 (gl1 (gl1 gl0))))) (fun _ _ _ _ _ => ts_nil) (fun _ _ _ _ _ => (atup (aa_cons (acl D_place_after hr (by decide) takes0 (aa_cons (av 1) (aa_cons (av 2) aa_nil)) (by rfl)) (aa_cons (av 3) (aa_cons (av 4) aa_nil)))))) Tb.tuple (by rfl))))), fun EA xs S Q h hn => ?_⟩
  obtain ⟨p, o, rfl, hz, hk⟩ := h
  have z3 : 3 ≤ sizeLine := sz3
  refine ⟨rfl, p, o, rfl, fun ht => ?_, fun ht i j => ?_⟩
  · rcases hk with ⟨h1, _⟩ | ⟨q, h1, h2, h3⟩
    · rw [ht] at h1; cases h1
    · show lcA _ _ _ _ (p.map hkD) _ _ _
      refine lcA_inv hkD (fun r a acc => ∃ dn q', a = ⟨[some (.im (paD p)), some (.im (paD o)), none, none, none], S⟩ ∧ carL r o = some q' ∧ q = dn ++ q' ∧ acc = dn.map hkD ∧ dn.length + r.length = p.length) ?_ ?_ p _ [] ⟨[], q, rfl, h2, rfl, rfl, by simp⟩
      · rintro h r a acc N ⟨dn, q', rfl, c1, c2, rfl, c4⟩ hN
        rw [carL] at c1
        split at c1
        · rename_i x q2 e1 e2
          cases c1
          refine ⟨rfl, o, h.s, rfl, ?_⟩
          rw [e1]
          rw [List.length_cons] at c4
          refine ⟨z3, by rw [List.length_map]; omega, hN _ _ ⟨dn ++ [⟨x, h.g, h.c⟩], q2, rfl, e2, by rw [c2]; simp, by rw [List.map_append]; rfl, by simp; omega⟩⟩
        · cases c1
      · rintro a acc ⟨dn, q', rfl, c1, c2, rfl, c4⟩
        rw [carL] at c1
        cases c1
        rw [List.append_nil] at c2
        rw [c2] at h3
        exact h3
  · rcases hk with ⟨h1, h2⟩ | ⟨q, h1, h2, h3⟩
    · exact h2
    · rw [ht] at h1; cases h1
abbrev s_commuted : Stmt := top 13
abbrev n_commuted : List Str := ["first", "second", "back", "ahead"]
theorem sc_commuted : FnScope n_commuted ["first", "second"] (defScope s_commuted) := ⟨rfl, rfl, rfl, by decide +kernel, rfl, by decide +kernel, by decide +kernel⟩
theorem ok_commuted {f : Addr} {fd : FuncData} (Fn : Fun K "commuted" "commuted" s_commuted f fd) (D_turned_back : Dfn P w K mg base Z 1 "turned_back" 1 fTurned) (D_carried : Dfn P w K mg base Z 2 "carried" 2 fCarried) : FnOk P w K mg base (L2.CX P w) 3 f fd ["first", "second"] (spA Z 2 fCommuted) := by
  refine aok Fn sc_commuted rfl fun cdv A outer s H E hr => ?_
  have tk := takes_of (X := cxOf (L2.CX P w) P w K mg base n_commuted "commuted" (defScope s_commuted) f cdv A outer s H E) rfl rfl rfl rfl
  refine ⟨_, (ss_cons (s_set 2 (acl D_turned_back hr (by decide) tk (aa_cons (av 0) aa_nil) (by rfl)) sc_commuted.nd)
    (ss_cons (s_set 3 (acl D_carried hr (by decide) tk (aa_cons (av 1) (aa_cons (av 2) aa_nil)) (by rfl)) sc_commuted.nd)
    (ss_cons (s_if (tcmp ao_isN (av 3) an (nomark _))
      (ss_one (s_ret an))
      ss_nil)
    (ss_one (s_ret (atup (aa_cons (av 3) (aa_cons (acl D_carried hr (by decide) tk (aa_cons (av 0) (aa_cons (av 3) aa_nil)) (by rfl)) aa_nil)))))))), fun EA xs S Q h hn => ?_⟩
  obtain ⟨f', s', rfl, z1, z2, hk⟩ := h
  have y2 : 2 ≤ sizeLine := sz3
  refine ⟨rfl, f', rfl, z1, rfl, s', back f', rfl, z2, ?_⟩
  rcases hk with ⟨h1, h2⟩ | ⟨a, b, h1, h2, h3, h4, h5⟩
  · refine .inl ⟨h1, ?_⟩
    exact h2
  · refine .inr ⟨a, h1, h2, ?_⟩
    exact ⟨rfl, f', a, rfl, z1, .inr ⟨b, h3, h4, y2, h5⟩⟩
abbrev s_within : Stmt := top 16
abbrev n_within : List Str := ["patch", "low", "high", "start", "gone", "come"]
theorem sc_within : FnScope n_within ["patch", "low", "high"] (defScope s_within) := ⟨rfl, rfl, rfl, by decide +kernel, rfl, by decide +kernel, by decide +kernel⟩
theorem ok_within {f : Addr} {fd : FuncData} (Fn : Fun K "within" "within" s_within f fd) (Tb : Blt mg) : FnOk P w K mg base (L2.CX P w) 1 f fd ["patch", "low", "high"] (spA Z 3 fWithin) := by
  refine aok Fn sc_within rfl fun cdv A outer s H E hr => ?_
  refine ⟨_, (ss_one (s_ret (alc (own := [("start", 3), ("gone", 4), ("come", 5)]) rfl sc_within.nd (i_t (av 0)) (blkOk_by (N := n_within) (sc := defScope s_within) (by decide +kernel)) (by decide) (fun _ _ _ _ _ => (g_tp rfl (gs_cons (g_nm 3 sc_within.nd) (gs_cons (g_nm 4 sc_within.nd) (gs_cons (g_nm 5 sc_within.nd) gs_nil))) (gl1 (gl1 (gl1 gl0))))) (fun _ _ _ _ _ => (ts_one (wand (tcmp ao_le (av 1) (av 3) (nomark _)) (wand1 (tcmp ao_le (ao ao_add (av 3) (alen (av 4) Tb.len (by rfl))) (av 2) (nomark _)))).at)) (fun _ _ _ _ _ => (atup (aa_cons (av 3) (aa_cons (av 4) (aa_cons (av 5) aa_nil)))))))), fun EA xs S Q h hn => ?_⟩
  obtain ⟨p, lo, hi, rfl, hz, hk⟩ := h
  have z3 : 3 ≤ sizeLine := sz3
  show lcA _ _ _ _ (p.map hkD) _ _ _
  refine lcA_inv hkD (fun r a acc => ∃ dn, a = ⟨[some (.im (paD p)), some (.im (.int lo)), some (.im (.int hi)), none, none, none], S⟩ ∧ withinF p lo hi = dn ++ withinF r lo hi ∧ acc = dn.map hkD ∧ dn.length + r.length ≤ p.length) ?_ ?_ p _ [] ⟨[], rfl, rfl, rfl, by simp⟩
  · rintro h r a acc N ⟨dn, rfl, c1, rfl, c3⟩ hN
    rw [List.length_cons] at c3
    have no : (decide (lo ≤ h.s) && decide (h.s + h.g.length ≤ hi)) = false → N ⟨[some (.im (paD p)), some (.im (.int lo)), some (.im (.int hi)), none, none, none], S⟩ (dn.map hkD) := fun e => hN _ _ ⟨dn, rfl, by rw [c1]; unfold withinF; rw [List.filter_cons_of_neg (by rw [e]; simp)], rfl, by omega⟩
    refine ite2 (fun hc => ?_) (fun hc => ?_)
    · have hc : lo ≤ h.s := by simpa using hc
      refine ite2 (fun hd => ?_) (fun hd => ?_)
      · have hd : h.s + (((h.g.map D.str).length : Nat) : Int) ≤ hi := by simpa using hd
        rw [List.length_map] at hd
        refine ⟨z3, by rw [List.length_map]; omega, hN _ _ ⟨dn ++ [h], rfl, ?_, by rw [List.map_append]; rfl, by simp; omega⟩⟩
        rw [c1]
        unfold withinF
        rw [List.filter_cons_of_pos (by simp [hc, hd])]
        simp
      · have hd : ¬ h.s + (((h.g.map D.str).length : Nat) : Int) ≤ hi := by simpa using hd
        rw [List.length_map] at hd
        exact no (by simp [hd])
    · have hc : ¬ lo ≤ h.s := by simpa using hc
      exact iteF (no (by simp [hc]))
  · rintro a acc ⟨dn, rfl, c1, rfl, c3⟩
    have c1 : withinF p lo hi = dn := by rw [c1]; simp [withinF]
    rw [c1] at hk
    exact hk
end
end Ab


namespace Ab
open PySem L2
/-! ### spans -/
def spanH (h : Hk) : Int × Int := (h.s, h.s + h.g.length)
def mergeS : List (Int × Int) → List (Int × Int) → List (Int × Int)
  | acc, [] => acc
  | acc, q :: r => match acc.getLast? with
    | some z => if q.1 ≤ z.2 then mergeS (acc.dropLast ++ [(z.1, if q.2 > z.2 then q.2 else z.2)]) r else mergeS (acc ++ [q]) r
    | none => mergeS (acc ++ [q]) r
theorem nil_or_snoc {α : Type} (l : List α) : l = [] ∨ ∃ m z, l = m ++ [z] := by
  by_cases h : l = []
  · exact .inl h
  · exact .inr ⟨l.dropLast, l.getLast h, (List.dropLast_concat_getLast h).symm⟩
theorem mergeS_snoc {acc r : List (Int × Int)} {z q : Int × Int} : mergeS (acc ++ [z]) (q :: r) = if q.1 ≤ z.2 then mergeS (acc ++ [(z.1, if q.2 > z.2 then q.2 else z.2)]) r else mergeS (acc ++ [z] ++ [q]) r := by
  rw [mergeS]
  simp
theorem mergeS_nil {r : List (Int × Int)} {q : Int × Int} : mergeS [] (q :: r) = mergeS [q] r := by
  rw [mergeS]
  simp
theorem atI_snoc {α : Type} {l : List α} {x : α} : atI (l ++ [x]) (-1) = some x := by
  unfold atI ixN
  rw [if_neg (by omega), List.length_append, List.length_singleton, if_pos (by omega)]
  show (l ++ [x])[(-1 + ((l.length + 1 : Nat) : Int)).toNat]? = some x
  rw [show (-1 + ((l.length + 1 : Nat) : Int)).toNat = l.length by omega]
  simp
theorem ixN_snoc {n : Nat} : ixN (n + 1) (-1) = some n := by
  unfold ixN
  rw [if_neg (by omega), if_pos (by omega)]
  congr 1
  omega
def fSpans : FD := fun _ xs S P => ∃ p o, xs = [.im (paD p), .im (paD o)] ∧ p.length + o.length < sizeLine ∧ ∀ ms : List (Int × Int), ms.Perm ((p ++ o).map spanH) → ms.Pairwise lexLe → P (.lst ((mergeS [] ms).map prD)) S
/-! ### the lines of a span -/
def optS : Option Str → D
  | none => .non
  | some s => .str s
def lay (f : List (Option Str)) (i : Nat) : List Str → Option (List (Option Str))
  | [] => some f
  | s :: r => match f[i]? with
    | some none => lay (f.set i (some s)) (i + 1) r
    | some (some t) => if s = t then lay (f.set i (some s)) (i + 1) r else none
    | none => none
def layH (f : List (Option Str)) (lo : Int) : List Hk → Option (List (Option Str))
  | [] => some f
  | h :: r => match lay f (h.s - lo).toNat h.g with
    | some f' => layH f' lo r
    | none => none
def fLinesB : FD := fun _ xs S P => ∃ hs lo hi, xs = [.im (.lst (hs.map hkD)), .im (.int lo), .im (.int hi)] ∧ lo ≤ hi ∧ hi - lo ≤ sizeLine ∧ (∀ h ∈ hs, lo ≤ h.s ∧ h.s + h.g.length ≤ hi) ∧
  (layH (List.replicate (hi - lo).toNat none) lo hs = none → P .non S) ∧ ∀ f, layH (List.replicate (hi - lo).toNat none) lo hs = some f → P (.lst (f.map optS)) S
/-! ### a span behind changes -/
def glueD (ds : List D) (lo : Int) : Int → List Hk → List D → List D
  | here, [], acc => acc ++ ds.drop here.toNat
  | here, h :: r, acc => glueD ds lo (h.s - lo + h.g.length) r (acc ++ cut ds here (h.s - lo) ++ h.c.map D.str)
def fRewr : FD := fun _ xs S P => ∃ ds lo hs, xs = [.im (.lst ds), .im (.int lo), .im (.lst (hs.map hkD))] ∧ (∀ h ∈ hs, lo ≤ h.s) ∧ (hs.length + 1) * ds.length + csum hs ≤ sizeLine ∧ P (.tup (glueD ds lo 0 hs [])) S
theorem lay_len {f f' : List (Option Str)} : ∀ {l : List Str} {i : Nat}, lay f i l = some f' → f'.length = f.length := by
  intro l
  induction l generalizing f with
  | nil => intro i h; rw [lay] at h; cases h; rfl
  | cons s r ih =>
    intro i h
    rw [lay] at h
    split at h
    · have := ih h; simpa using this
    · split at h
      · have := ih h; simpa using this
      · cases h
    · cases h
section
variable {P : Program} {w : World} {K : PySem.W.Frag} {mg : Str → Option Value} {base : Heap} {Z : Cl}
abbrev s_spans_between : Stmt := top 15
abbrev n_spans_between : List Str := ["one", "two", "found", "low", "high", "start", "gone", "_"]
theorem sc_spans_between : FnScope n_spans_between ["one", "two"] (defScope s_spans_between) := ⟨rfl, rfl, rfl, by decide +kernel, rfl, by decide +kernel, by decide +kernel⟩
theorem ok_spans_between {f : Addr} {fd : FuncData} (Fn : Fun K "spans_between" "spans_between" s_spans_between f fd) (Tb : Blt mg) : FnOk P w K mg base (L2.CX P w) 1 f fd ["one", "two"] (spA Z 2 fSpans) := by
  refine aok Fn sc_spans_between rfl fun cdv A outer s H E hr => ?_
  have hp := passes_of (X := cxOf (L2.CX P w) P w K mg base n_spans_between "spans_between" (defScope s_spans_between) f cdv A outer s H E) rfl
  refine ⟨_, (ss_cons (s_own 2 (alst aa_nil) sc_spans_between.nd)
    (ss_cons (s_for hp rfl (i_l (asrt (alc (own := [("start", 5), ("gone", 6), ("_", 7)]) rfl sc_spans_between.nd (i_t (ao ao_add (av 0) (av 1))) (blkOk_by (N := n_spans_between) (sc := defScope s_spans_between) (by decide +kernel)) (by decide) (fun _ _ _ _ _ => (g_tp rfl (gs_cons (g_nm 5 sc_spans_between.nd) (gs_cons (g_nm 6 sc_spans_between.nd) (gs_cons (g_nm 7 sc_spans_between.nd) gs_nil))) (gl1 (gl1 (gl1 gl0))))) (fun _ _ _ _ _ => ts_nil) (fun _ _ _ _ _ => (atup (aa_cons (av 5) (aa_cons (ao ao_add (av 5) (alen (av 6) Tb.len (by rfl))) aa_nil))))) Tb.sorted (by rfl))) (g_tp rfl (gs_cons (g_nm 3 sc_spans_between.nd) (gs_cons (g_nm 4 sc_spans_between.nd) gs_nil)) (gl1 (gl1 gl0)))
      (ss_one (s_if (wand (ttru (lv 2)) (wand1 (tcmp ao_le (av 3) (aix (aixl (lv 2) (qneg qi)) ai) (nomark _)))).at
        (ss_one (s_setL 2 (qneg qi) (atup (aa_cons (aix (aixl (lv 2) (qneg qi)) ai) (aa_cons (amax rfl (aix (aixl (lv 2) (qneg qi)) ai) (av 4) Tb.max (by rfl)) aa_nil)))))
        (ss_one (s_app 2 (atup (aa_cons (av 3) (aa_cons (av 4) aa_nil))))))))
    (ss_one (s_ret (av 2))))), fun EA xs S Q h hn => ?_⟩
  obtain ⟨p, o, rfl, hz, hk⟩ := h
  have y2 : 2 ≤ sizeLine := sz3
  refine ⟨Nat.zero_le _, ?_⟩
  refine ⟨by rw [List.length_map, List.length_map]; omega, ?_⟩
  show lcA _ _ _ _ (p.map hkD ++ o.map hkD) _ _ _
  rw [← List.map_append]
  refine lcA_inv hkD (fun r a acc => ∃ dn, a = ⟨[some (.im (paD p)), some (.im (paD o)), some (.owl []), none, none, none, none, none], S⟩ ∧ p ++ o = dn ++ r ∧ acc = (dn.map spanH).map prD) ?_ ?_ (p ++ o) _ [] ⟨[], rfl, rfl, rfl⟩
  · rintro h r a acc N ⟨dn, rfl, c1, rfl⟩ hN
    have hl := congrArg List.length c1
    simp only [List.length_append, List.length_cons] at hl
    refine ⟨y2, by rw [List.length_map, List.length_map]; omega, hN _ _ ⟨dn ++ [h], rfl, by rw [c1]; simp, ?_⟩⟩
    have e : prD (spanH h) = .tup [.int h.s, .int (h.s + (h.g.map D.str).length)] := by rw [List.length_map]; rfl
    rw [List.map_append, List.map_append, List.map_singleton, List.map_singleton, e]
  · rintro a acc ⟨dn, rfl, c1, rfl⟩
    rw [List.append_nil] at c1
    subst c1
    refine ⟨_, rfl, fun ms hp hs => ?_⟩
    have hlen : ms.length = p.length + o.length := by rw [hp.length_eq]; simp
    have hk := hk ms hp hs
    show forA _ _ (ms.map prD) _ _
    refine forA_inv prD (fun r a => ∃ (acc : List (Int × Int)) (fd : List D) (r3 r4 : Option AV), fd = acc.map prD ∧ mergeS acc r = mergeS [] ms ∧ acc.length + r.length ≤ ms.length ∧ a = ⟨[some (.im (paD p)), some (.im (paD o)), some (.owl fd), r3, r4, none, none, none], S⟩) ?_ ?_ ms _ ⟨[], _, none, none, rfl, rfl, by simp, rfl⟩
    · rintro q r a N ⟨acc, _, r3, r4, rfl, c1, c2, rfl⟩ hN
      rw [List.length_cons] at c2
      rcases nil_or_snoc acc with rfl | ⟨acc', z, rfl⟩
      · rw [mergeS_nil] at c1
        exact ⟨y2, by show 0 < sizeLine; omega, hN _ ⟨[q], _, _, _, rfl, c1, by simp; omega, rfl⟩⟩
      · rw [mergeS_snoc] at c1
        have el : ((acc' ++ [z]).map prD).length = acc'.length + 1 := by simp
        have e1 : (acc' ++ [z]).map prD = acc'.map prD ++ [prD z] := by simp
        have hat : atI ((acc' ++ [z]).map prD) (-1) = some (prD z) := by rw [e1]; exact atI_snoc
        have ne : (!((acc' ++ [z]).map prD).isEmpty) = true := by simp
        have hl2 : (acc' ++ [z]).length = acc'.length + 1 := by simp
        rw [hl2] at c2
        show (if (!((acc' ++ [z]).map prD).isEmpty) = true then _ else _)
        rw [if_pos ne]
        refine ⟨prD z, hat, .int z.2, rfl, ?_⟩
        refine ite2 (fun hc => ?_) (fun hc => ?_)
        · have hc : q.1 ≤ z.2 := by simpa using hc
          rw [if_pos hc] at c1
          refine ⟨prD z, hat, .int z.1, rfl, prD z, hat, .int z.2, rfl, y2, acc'.length, ?_, hN _ ⟨acc' ++ [(z.1, if q.2 > z.2 then q.2 else z.2)], _, _, _, ?_, c1, ?_, rfl⟩⟩
          · rw [el]; exact ixN_snoc
          · rw [e1, List.set_append_right _ _ (by rw [List.length_map]; exact Nat.le_refl _), List.length_map, Nat.sub_self, List.map_append]
            rfl
          · rw [List.length_append, List.length_singleton]; omega
        · have hc : ¬ q.1 ≤ z.2 := by simpa using hc
          rw [if_neg hc] at c1
          refine ⟨y2, by rw [el]; omega, hN _ ⟨acc' ++ [z] ++ [q], _, _, _, ?_, c1, ?_, rfl⟩⟩
          · rw [List.map_append (l₂ := [q])]
            rfl
          · rw [List.length_append, hl2, List.length_singleton]; omega
    · rintro a ⟨acc, _, r3, r4, rfl, c1, c2, rfl⟩
      rw [mergeS] at c1
      show Q (.lst (acc.map prD)) S
      rw [c1]
      exact hk
abbrev s_lines_between : Stmt := top 17
abbrev n_lines_between : List Str := ["hunks", "low", "high", "found", "start", "gone", "_", "place", "line"]
theorem sc_lines_between : FnScope n_lines_between ["hunks", "low", "high"] (defScope s_lines_between) := ⟨rfl, rfl, rfl, by decide +kernel, rfl, by decide +kernel, by decide +kernel⟩
theorem ok_lines_between {f : Addr} {fd : FuncData} (Fn : Fun K "lines_between" "lines_between" s_lines_between f fd) (Tb : Blt mg) : FnOk P w K mg base (L2.CX P w) 1 f fd ["hunks", "low", "high"] (spA Z 3 fLinesB) := by
  refine aok Fn sc_lines_between rfl fun cdv A outer s H E hr => ?_
  have hp := passes_of (X := cxOf (L2.CX P w) P w K mg base n_lines_between "lines_between" (defScope s_lines_between) f cdv A outer s H E) rfl
  refine ⟨_, (ss_cons (s_own 3 (arep an (ao ao_sub (av 2) (av 1))) sc_lines_between.nd)
    (ss_cons (s_for hp rfl (i_l (av 0)) (g_tp rfl (gs_cons (g_nm 4 sc_lines_between.nd) (gs_cons (g_nm 5 sc_lines_between.nd) (gs_cons (g_nm 6 sc_lines_between.nd) gs_nil))) (gl1 (gl1 (gl1 gl0))))
      (ss_one (s_for hp rfl (i_e (av 5) Tb.enumerate (by rfl)) (g_tp rfl (gs_cons (g_nm 7 sc_lines_between.nd) (gs_cons (g_nm 8 sc_lines_between.nd) gs_nil)) (gl1 (gl1 gl0)))
        (ss_cons (s_if (tcmp ao_ni (aixl (lv 3) (qadd (qsub (qv 4) (qv 1)) (qv 7))) (atup (aa_cons an (aa_cons (av 8) aa_nil))) (by rfl))
          (ss_one (s_ret an))
          ss_nil)
        (ss_one (s_setL 3 (qadd (qsub (qv 4) (qv 1)) (qv 7)) (av 8)))))))
    (ss_one (s_ret (av 3))))), fun EA xs S Q h hn => ?_⟩
  obtain ⟨hs, lo, hi, rfl, h0, h1, hr', k1, k2⟩ := h
  have y2 : 2 ≤ sizeLine := sz3
  have z1 : 1 ≤ sizeLine := sz3
  refine ⟨by omega, h1, ?_⟩
  have er : List.replicate (hi - lo).toNat D.non = (List.replicate (hi - lo).toNat (none : Option Str)).map optS := by rw [List.map_replicate]; rfl
  refine forA_inv hkD (fun r a => ∃ (f : List (Option Str)) (fd : List D) (r4 r5 r6 r7 r8 : Option AV), fd = f.map optS ∧ f.length = (hi - lo).toNat ∧ layH f lo r = layH (List.replicate (hi - lo).toNat none) lo hs ∧ (∀ h ∈ r, h ∈ hs) ∧
    a = ⟨[some (.im (.lst (hs.map hkD))), some (.im (.int lo)), some (.im (.int hi)), some (.owl fd), r4, r5, r6, r7, r8], S⟩) ?_ ?_ hs _ ⟨List.replicate (hi - lo).toNat none, _, _, _, _, _, _, er, by simp, rfl, fun _ h => h, rfl⟩
  · rintro h r a N ⟨f, _, r4, r5, r6, r7, r8, rfl, hf, eh, hm, rfl⟩ hN
    obtain ⟨b1, b2⟩ := hr' h (hm h List.mem_cons_self)
    show forA _ _ (numb (h.g.map D.str)) _ _
    rw [numb_map]
    refine forA_inv _ (fun r' a => ∃ (f' : List (Option Str)) (fd : List D) (q : List Str) (n : Nat) (r7 r8 : Option AV), fd = f'.map optS ∧ f'.length = (hi - lo).toNat ∧ h.g = q ++ r'.map (·.1) ∧ (∀ e r2, r' = e :: r2 → e.2 = q.length) ∧ (∀ i e, r'[i]? = some e → e.2 = q.length + i) ∧ lay f' ((h.s - lo).toNat + q.length) (r'.map (·.1)) = lay f (h.s - lo).toNat h.g ∧
      a = ⟨[some (.im (.lst (hs.map hkD))), some (.im (.int lo)), some (.im (.int hi)), some (.owl fd), some (.im (.int h.s)), some (.im (strsD h.g)), some (.im (strsD h.c)), r7, r8], S⟩) ?_ ?_ _ _ ⟨f, _, [], 0, _, _, rfl, hf, by simp [List.zipIdx_map_fst], fun e r2 he => by have := congrArg (fun l => l[0]?) he; simp at this; obtain ⟨a', ha, hb⟩ := this; rw [← hb]; rfl, fun i e he => by simp at he; obtain ⟨a', ha, hb⟩ := he; rw [← hb]; simp, by simp [List.zipIdx_map_fst], rfl⟩
    · rintro ⟨ln, m⟩ r' a N' ⟨f', _, q, n, r7, r8, rfl, hf', eg, en, en2, el, rfl⟩ hN'
      have em : m = q.length := en (ln, m) r' rfl
      subst em
      have hg : q.length < h.g.length := by rw [eg]; simp
      have ix : ∀ {L : Nat}, L = f'.length → ixN L (h.s - lo + (q.length : Nat)) = some ((h.s - lo).toNat + q.length) := fun {L} hL => by
        unfold ixN
        rw [if_pos (by omega), if_pos (by rw [hL, hf']; omega)]
        congr 1
        omega
      have hlt : (h.s - lo).toNat + q.length < f'.length := by rw [hf']; omega
      have hat : f'[(h.s - lo).toNat + q.length]? = some f'[(h.s - lo).toNat + q.length] := List.getElem?_eq_getElem hlt
      have ixd : atI (f'.map optS) (h.s - lo + (q.length : Nat)) = some (optS f'[(h.s - lo).toNat + q.length]) := by
        unfold atI
        rw [ix (by rw [List.length_map])]
        show (f'.map optS)[(h.s - lo).toNat + q.length]? = _
        rw [List.getElem?_map, hat]
        rfl
      rw [List.map_cons, lay, hat] at el
      have step : ∀ (fd' : List D), fd' = (f'.set ((h.s - lo).toNat + q.length) (some ln)).map optS → lay (f'.set ((h.s - lo).toNat + q.length) (some ln)) ((h.s - lo).toNat + q.length + 1) (r'.map (·.1)) = lay f (h.s - lo).toNat h.g → N' ⟨[some (.im (.lst (hs.map hkD))), some (.im (.int lo)), some (.im (.int hi)), some (.owl fd'), some (.im (.int h.s)), some (.im (strsD h.g)), some (.im (strsD h.c)), some (.im (.int (q.length : Nat))), some (.im (.str ln))], S⟩ := fun fd' e1 e2 =>
        hN' _ ⟨f'.set ((h.s - lo).toNat + q.length) (some ln), _, q ++ [ln], n, _, _, e1, by simpa using hf', by rw [eg]; simp, fun e r2 he => by
          have := en2 1 e (by rw [he]; rfl)
          simpa using this, fun i e he => by
          have := en2 (i + 1) e (by simpa using he)
          simp at this ⊢; omega, by rw [List.length_append, List.length_singleton, ← Nat.add_assoc]; exact e2, rfl⟩
      have eset : (f'.map optS).set ((h.s - lo).toNat + q.length) (.str ln) = (f'.set ((h.s - lo).toNat + q.length) (some ln)).map optS := by
        rw [List.map_set]; rfl
      have ixs : ixN (f'.map optS).length (h.s - lo + (q.length : Nat)) = some ((h.s - lo).toNat + q.length) := ix (by rw [List.length_map])
      refine ⟨optS f'[(h.s - lo).toNat + q.length], ixd, y2, ?_⟩
      cases eo : f'[(h.s - lo).toNat + q.length] with
      | none =>
        rw [eo] at el
        refine ⟨rfl, rfl, ?_⟩
        have ei : inD .non [.non, .str ln] = true := by unfold inD; simp [same_self]
        show (if (!inD .non [.non, .str ln]) = true then _ else _)
        rw [ei]
        exact ⟨_, ixs, step _ eset el⟩
      | some t =>
        rw [eo] at el
        refine ⟨rfl, rfl, ?_⟩
        have ei : inD (.str t) [.non, .str ln] = decide (ln = t) := by
          unfold inD
          have e1 : same .non (.str t) = false := same_no (by simp)
          have e2 : same (.str ln) (.str t) = decide (ln = t) := same_of (by simp)
          simp [e1, e2]
        show (if (!inD (.str t) [.non, .str ln]) = true then _ else _)
        rw [ei]
        by_cases hc : ln = t
        · rw [decide_eq_true hc]
          simp only [hc, if_true] at el
          exact ⟨_, ixs, step _ eset (by rw [hc]; exact el)⟩
        · rw [decide_eq_false hc]
          simp only [hc, if_false] at el
          refine k1 ?_
          rw [← eh, layH, ← el]
    · rintro a ⟨f', _, q, n, r7, r8, rfl, hf', eg, en, en2, el, rfl⟩
      have el : some f' = lay f (h.s - lo).toNat h.g := by simpa [lay] using el
      refine hN _ ⟨f', _, _, _, _, _, _, rfl, hf', ?_, fun k hk => hm k (List.mem_cons_of_mem _ hk), rfl⟩
      rw [← eh, layH, ← el]
  · rintro a ⟨f, _, r4, r5, r6, r7, r8, rfl, hf, eh, hm, rfl⟩
    exact k2 f (by rw [← eh, layH])
abbrev s_rewritten : Stmt := top 18
abbrev n_rewritten : List Str := ["lines", "low", "hunks", "found", "here", "start", "gone", "come"]
theorem sc_rewritten : FnScope n_rewritten ["lines", "low", "hunks"] (defScope s_rewritten) := ⟨rfl, rfl, rfl, by decide +kernel, rfl, by decide +kernel, by decide +kernel⟩
theorem ok_rewritten {f : Addr} {fd : FuncData} (Fn : Fun K "rewritten" "rewritten" s_rewritten f fd) (Tb : Blt mg) : FnOk P w K mg base (L2.CX P w) 1 f fd ["lines", "low", "hunks"] (spA Z 3 fRewr) := by
  refine aok Fn sc_rewritten rfl fun cdv A outer s H E hr => ?_
  have hp := passes_of (X := cxOf (L2.CX P w) P w K mg base n_rewritten "rewritten" (defScope s_rewritten) f cdv A outer s H E) rfl
  refine ⟨_, (ss_cons (s_parT 3 4 (atup aa_nil) ai rfl sc_rewritten.nd)
    (ss_cons (s_for hp rfl (i_l (av 2)) (g_tp rfl (gs_cons (g_nm 5 sc_rewritten.nd) (gs_cons (g_nm 6 sc_rewritten.nd) (gs_cons (g_nm 7 sc_rewritten.nd) gs_nil))) (gl1 (gl1 (gl1 gl0))))
      (ss_cons (s_set 3 (ao ao_add (ao ao_add (av 3) (atpl (asl (av 0) (oso (av 4)) (oso (ao ao_sub (av 5) (av 1)))) Tb.tuple (by rfl))) (av 7)) sc_rewritten.nd)
      (ss_one (s_set 4 (ao ao_add (ao ao_sub (av 5) (av 1)) (alen (av 6) Tb.len (by rfl))) sc_rewritten.nd))))
    (ss_one (s_ret (ao ao_add (av 3) (atpl (asl (av 0) (oso (av 4)) ono) Tb.tuple (by rfl))))))), fun EA xs S Q h hn => ?_⟩
  obtain ⟨ds, lo, hs, rfl, hs', hz, hk⟩ := h
  refine ⟨Nat.zero_le _, ?_⟩
  refine forA_inv hkD (fun r a => ∃ (here : Int) (acc : List D) (r5 r6 r7 : Option AV), 0 ≤ here ∧ glueD ds lo here r acc = glueD ds lo 0 hs [] ∧ (∀ h ∈ r, h ∈ hs) ∧ acc.length + (r.length + 1) * ds.length + csum r ≤ (hs.length + 1) * ds.length + csum hs ∧
    a = ⟨[some (.im (.lst ds)), some (.im (.int lo)), some (.im (.lst (hs.map hkD))), some (.im (.tup acc)), some (.im (.int here)), r5, r6, r7], S⟩) ?_ ?_ hs _ ⟨0, [], _, _, _, Int.le_refl _, rfl, fun _ h => h, by simp, rfl⟩
  · rintro h r a N ⟨here, acc, r5, r6, r7, h0, e, hm, hsz, rfl⟩ hN
    have b1 := hs' h (hm h List.mem_cons_self)
    have e1 : cutD ds (some here) (some (h.s - lo)) = cut ds here (h.s - lo) := cutD_eq h0 (by omega)
    have c1 : (cut ds here (h.s - lo)).length ≤ ds.length := cut_len
    have hs2 : acc.length + (r.length + 1 + 1) * ds.length + (h.c.length + csum r) ≤ (hs.length + 1) * ds.length + csum hs := by simpa [csum] using hsz
    have m1 : (r.length + 1 + 1) * ds.length = (r.length + 1) * ds.length + ds.length := by rw [Nat.succ_mul]
    have lm : (h.c.map D.str).length = h.c.length := List.length_map _
    refine ⟨by rw [e1]; omega, by rw [List.length_append, e1, lm]; omega, hN _ ⟨h.s - lo + (h.g.map D.str).length, _, _, _, _, by omega, ?_, fun k hk => hm k (List.mem_cons_of_mem _ hk), ?_, rfl⟩⟩
    · rw [List.length_map, e1]; exact e
    · rw [List.length_append, List.length_append, e1, lm]; omega
  · rintro a ⟨here, acc, r5, r6, r7, h0, e, hm, hsz, rfl⟩
    have e1 : cutD ds (some here) none = ds.drop here.toNat := cutD_end h0
    have hs2 : acc.length + ds.length ≤ (hs.length + 1) * ds.length + csum hs := by simpa [csum] using hsz
    refine ⟨by rw [e1, List.length_drop]; omega, ?_⟩
    rw [← e, glueD, ← e1] at hk
    exact hk
end
end Ab


namespace Ab
open PySem L2
/-! ### joined -/
def adv (f b : List Hk) (low : Int) : Nat → Int → Nat → Int × Nat
  | 0, m, i => (m, i)
  | n + 1, m, i => match b[i]?, f[i]? with
    | some k, some h => if k.s < low then adv f b low n (m + (h.c.length - h.g.length)) (i + 1) else (m, i)
    | _, _ => (m, i)
noncomputable def joinD (f b s : List Hk) : List (Int × Int) → Int → Nat → List D → Option (List D)
  | [], _, _, acc => some acc
  | q :: r, m, i, acc => match layH (List.replicate (q.2 - q.1).toNat none) q.1 (withinF b q.1 q.2 ++ withinF s q.1 q.2) with
    | none => none
    | some l => joinD f b s r (adv f b q.1 (b.length - i) m i).1 (adv f b q.1 (b.length - i) m i).2
        (if (!same (.tup (glueD (l.map optS) q.1 0 (withinF b q.1 q.2) [])) (.tup (glueD (l.map optS) q.1 0 (withinF s q.1 q.2) []))) = true then
          acc ++ [.tup [.int (q.1 - (adv f b q.1 (b.length - i) m i).1), .tup (glueD (l.map optS) q.1 0 (withinF b q.1 q.2) []), .tup (glueD (l.map optS) q.1 0 (withinF s q.1 q.2) [])]] else acc)
def fJoined : FD := fun _ xs S P => ∃ (f s : List Hk) (M : Nat), xs = [.im (paD f), .im (paD s)] ∧ (∀ h ∈ f, okL h.g ∧ okL h.c) ∧ (∀ h ∈ s, okL h.g ∧ okL h.c) ∧ (f.length + s.length + 2) * M + gsum f + csum s + f.length + s.length + M < sizeLine ∧
  ∀ ms : List (Int × Int), ms.Perm ((back f ++ s).map spanH) → ms.Pairwise lexLe → (∀ q ∈ mergeS [] ms, q.1 ≤ q.2 ∧ q.2 - q.1 ≤ M) ∧ ∃ ds, joinD f (back f) s (mergeS [] ms) 0 0 [] = some ds ∧ P (.tup ds) S
theorem mergeS_len : ∀ {r acc : List (Int × Int)}, (mergeS acc r).length ≤ acc.length + r.length
  | [], acc => by rw [mergeS]; omega
  | q :: r, acc => by
    rcases nil_or_snoc acc with rfl | ⟨acc', z, rfl⟩
    · rw [mergeS_nil]
      have := mergeS_len (r := r) (acc := [q])
      simp at this ⊢; omega
    · rw [mergeS_snoc]
      split
      · have := mergeS_len (r := r) (acc := acc' ++ [(z.1, if q.2 > z.2 then q.2 else z.2)])
        simp at this ⊢; omega
      · have := mergeS_len (r := r) (acc := acc' ++ [z] ++ [q])
        simp at this ⊢; omega
/-- what == tells apart in a span -/
def okO (d : D) : Prop := d = .non ∨ ∃ s, d = .str s ∧ PyData.strOk s = true
theorem okO_cmps {n : Nat} : ∀ {ds : List D}, (∀ d ∈ ds, okO d) → cmps n ds = true
  | [], _ => by simp [cmps]
  | d :: ds, h => by
    have h2 := okO_cmps (n := n) (ds := ds) fun e he => h e (List.mem_cons_of_mem _ he)
    rcases h d List.mem_cons_self with rfl | ⟨s, rfl, hs⟩
    · simp [cmps, cmp, h2]
    · simp [cmps, cmp, h2, hs]
theorem lay_ok {l : List Str} : ∀ {f f' : List (Option Str)} {i : Nat}, okL l → (∀ o ∈ f, okO (optS o)) → lay f i l = some f' → ∀ o ∈ f', okO (optS o) := by
  induction l with
  | nil => intro f f' i _ h e; rw [lay] at e; cases e; exact h
  | cons s r ih =>
    intro f f' i hl h e
    have hs := hl s List.mem_cons_self
    have hr : okL r := fun t ht => hl t (List.mem_cons_of_mem _ ht)
    have h2 : ∀ o ∈ f.set i (some s), okO (optS o) := fun o ho => by
      rcases List.mem_or_eq_of_mem_set ho with ho | rfl
      · exact h o ho
      · exact .inr ⟨s, rfl, hs⟩
    rw [lay] at e
    split at e
    · exact ih hr h2 e
    · split at e
      · exact ih hr h2 e
      · cases e
    · cases e
theorem layH_ok {lo : Int} {hs : List Hk} : ∀ {f f' : List (Option Str)}, (∀ h ∈ hs, okL h.g) → (∀ o ∈ f, okO (optS o)) → layH f lo hs = some f' → ∀ o ∈ f', okO (optS o) := by
  induction hs with
  | nil => intro f f' _ h e; rw [layH] at e; cases e; exact h
  | cons k r ih =>
    intro f f' hl h e
    rw [layH] at e
    split at e
    · rename_i f2 e2
      exact ih (fun x hx => hl x (List.mem_cons_of_mem _ hx)) (lay_ok (hl k List.mem_cons_self) h e2) e
    · cases e
theorem glueD_ok {ds : List D} {lo : Int} {hs : List Hk} : ∀ {here : Int} {acc : List D}, (∀ d ∈ ds, okO d) → (∀ h ∈ hs, okL h.c) → (∀ d ∈ acc, okO d) → ∀ d ∈ glueD ds lo here hs acc, okO d := by
  induction hs with
  | nil =>
    intro here acc h1 h2 h3 d hd
    rw [glueD] at hd
    rcases List.mem_append.mp hd with hd | hd
    · exact h3 d hd
    · exact h1 d (List.mem_of_mem_drop hd)
  | cons k r ih =>
    intro here acc h1 h2 h3 d hd
    rw [glueD] at hd
    refine ih h1 (fun x hx => h2 x (List.mem_cons_of_mem _ hx)) (fun e he => ?_) d hd
    rcases List.mem_append.mp he with he | he
    · rcases List.mem_append.mp he with he | he
      · exact h3 e he
      · exact h1 e (List.mem_of_mem_drop (List.mem_of_mem_take he))
    · obtain ⟨t, ht, rfl⟩ := List.mem_map.mp he
      exact .inr ⟨t, rfl, h2 k List.mem_cons_self t ht⟩
theorem back_mem {k : Hk} {p : List Hk} : ∀ {m : Int}, k ∈ backF m p → ∃ h ∈ p, k.g = h.c ∧ k.c = h.g := by
  induction p with
  | nil => intro m h; cases h
  | cons h r ih =>
    intro m hk
    rw [backF] at hk
    rcases List.mem_cons.mp hk with rfl | hk
    · exact ⟨h, List.mem_cons_self, rfl, rfl⟩
    · obtain ⟨x, hx, e⟩ := ih hk
      exact ⟨x, List.mem_cons_of_mem _ hx, e⟩
theorem csum_back {p : List Hk} : ∀ {m : Int}, csum (backF m p) = gsum p := by
  induction p with
  | nil => intro m; rfl
  | cons h r ih =>
    intro m
    have := ih (m := m + h.c.length - h.g.length)
    simp only [backF, csum, gsum, List.map_cons, List.sum_cons] at this ⊢
    rw [this]
theorem csum_filter {q : Hk → Bool} : ∀ {p : List Hk}, csum (p.filter q) ≤ csum p
  | [] => Nat.le_refl _
  | h :: r => by
    have := csum_filter (q := q) (p := r)
    rw [List.filter_cons]
    split
    · simp only [csum, List.map_cons, List.sum_cons] at this ⊢; omega
    · simp only [csum, List.map_cons, List.sum_cons] at this ⊢; omega
theorem layH_len {lo : Int} {hs : List Hk} : ∀ {f f' : List (Option Str)}, layH f lo hs = some f' → f'.length = f.length := by
  induction hs with
  | nil => intro f f' e; rw [layH] at e; cases e; rfl
  | cons k r ih =>
    intro f f' e
    rw [layH] at e
    split at e
    · rename_i f2 e2
      rw [ih e, lay_len e2]
    · cases e
theorem within_at {p : List Hk} {lo hi : Int} {h : Hk} (e : h ∈ withinF p lo hi) : h ∈ p ∧ lo ≤ h.s ∧ h.s + h.g.length ≤ hi := by
  unfold withinF at e
  rw [List.mem_filter] at e
  simpa using e
theorem atI_map {α : Type} {f : α → D} {l : List α} {i : Nat} {x : α} (h : l[i]? = some x) : atI (l.map f) ((i : Nat) : Int) = some (f x) := by
  have hl := (List.getElem?_eq_some_iff.mp h).1
  unfold atI ixN
  rw [if_pos (by omega), List.length_map, if_pos (by omega)]
  show (l.map f)[((i : Nat) : Int).toNat]? = _
  rw [Int.toNat_natCast, List.getElem?_map, h]
  rfl
section
variable {P : Program} {w : World} {K : PySem.W.Frag} {mg : Str → Option Value} {base : Heap} {Z : Cl}
abbrev s_joined : Stmt := top 14
abbrev n_joined : List Str := ["first", "second", "back", "found", "wrong", "moved", "place", "number", "low", "high", "here", "there", "middle", "old", "new"]
theorem sc_joined : FnScope n_joined ["first", "second"] (defScope s_joined) := ⟨rfl, rfl, rfl, by decide +kernel, rfl, by decide +kernel, by decide +kernel⟩
theorem ok_joined {f : Addr} {fd : FuncData} (Fn : Fun K "joined" "joined" s_joined f fd) (Tb : Blt mg) (Te : Errs P K mg Z) (D_turned_back : Dfn P w K mg base Z 1 "turned_back" 1 fTurned) (D_spans_between : Dfn P w K mg base Z 1 "spans_between" 2 fSpans) (D_within : Dfn P w K mg base Z 1 "within" 3 fWithin) (D_lines_between : Dfn P w K mg base Z 1 "lines_between" 3 fLinesB) (D_rewritten : Dfn P w K mg base Z 1 "rewritten" 3 fRewr) : FnOk P w K mg base (L2.CX P w) 2 f fd ["first", "second"] (spA Z 2 fJoined) := by
  refine aok Fn sc_joined rfl fun cdv A outer s H E hr => ?_
  have hp := passes_of (X := cxOf (L2.CX P w) P w K mg base n_joined "joined" (defScope s_joined) f cdv A outer s H E) rfl
  have tk := takes_of (X := cxOf (L2.CX P w) P w K mg base n_joined "joined" (defScope s_joined) f cdv A outer s H E) rfl rfl rfl rfl
  have hu := hu64 hr
  refine ⟨_, (ss_cons (s_set 2 (acl D_turned_back hr (by decide) tk (aa_cons (av 0) aa_nil) (by rfl)) sc_joined.nd)
    (ss_cons (s_quad 3 4 5 6 qi qi rfl sc_joined.nd)
    (ss_cons (s_for hp rfl (i_el (acl D_spans_between hr (by decide) tk (aa_cons (av 2) (aa_cons (av 1) aa_nil)) (by rfl)) Tb.enumerate (by rfl)) (g_tp rfl (gs_cons (g_nm 7 sc_joined.nd) (gs_cons (g_tp rfl (gs_cons (g_nm 8 sc_joined.nd) (gs_cons (g_nm 9 sc_joined.nd) gs_nil)) (gl1 (gl1 gl0))) gs_nil)) (gl1 (gl2 gl0 (gm1 (gm1 gm0)))))
      (ss_cons (s_while hp (wand (tcmp ao_lt (av 6) (alen (av 2) Tb.len (by rfl)) (nomark _)) (wand1 (tcmp ao_lt (aix (aix (av 2) (av 6)) ai) (av 8) (nomark _)))).at
        (ss_cons (s_aug 5 ao_iadd (ao ao_sub (alen (aix (aix (av 0) (av 6)) ai) Tb.len (by rfl)) (alen (aix (aix (av 0) (av 6)) ai) Tb.len (by rfl))) sc_joined.nd)
        (ss_one (s_aug 6 ao_iadd ai sc_joined.nd))))
      (ss_cons (s_par 10 11 (acl D_within hr (by decide) tk (aa_cons (av 2) (aa_cons (av 8) (aa_cons (av 9) aa_nil))) (by rfl)) (acl D_within hr (by decide) tk (aa_cons (av 1) (aa_cons (av 8) (aa_cons (av 9) aa_nil))) (by rfl)) rfl sc_joined.nd)
      (ss_cons (s_set 12 (acl D_lines_between hr (by decide) tk (aa_cons (ao ao_add (av 10) (av 11)) (aa_cons (av 8) (aa_cons (av 9) aa_nil))) (by rfl)) sc_joined.nd)
      (ss_one (s_if (tcmp ao_isN (av 12) an (nomark _))
        (ss_one (s_app 4 (av 7)))
        (ss_cons (s_par 13 14 (acl D_rewritten hr (by decide) tk (aa_cons (av 12) (aa_cons (av 8) (aa_cons (av 10) aa_nil))) (by rfl)) (acl D_rewritten hr (by decide) tk (aa_cons (av 12) (aa_cons (av 8) (aa_cons (av 11) aa_nil))) (by rfl)) rfl sc_joined.nd)
        (ss_one (s_if (tcmp (ao_ne hu) (av 13) (av 14) (nomark _))
          (ss_one (s_app 3 (atup (aa_cons (ao ao_sub (av 8) (av 5)) (aa_cons (av 13) (aa_cons (av 14) aa_nil))))))
          ss_nil)))))))))
    (ss_cons (s_if (ttru (lv 4))
      (ss_one (s_cf Te hr rfl tk (atplL (lv 4) Tb.tuple (by rfl)) (by rfl)))
      ss_nil)
    (ss_one (s_ret (atplL (lv 3) Tb.tuple (by rfl)))))))), fun EA xs S Q h hn => ?_⟩
  obtain ⟨f', s', M, rfl, of, os, hz, hk⟩ := h
  have z3 : 3 ≤ sizeLine := sz3
  have z2 : 2 ≤ sizeLine := sz3
  have lb : (back f').length = f'.length := backF_len _ _
  refine ⟨rfl, f', rfl, by omega, ?_⟩
  refine ⟨rfl, back f', s', rfl, by rw [lb]; omega, fun ms hp hs => ?_⟩
  obtain ⟨hq, ds, hj, hfin⟩ := hk ms hp hs
  have hml : (mergeS [] ms).length ≤ f'.length + s'.length := by
    have h1 := mergeS_len (r := ms) (acc := [])
    have h2 := hp.length_eq
    simp at h1 h2
    rw [lb] at h2
    omega
  show forA _ _ (numb ((mergeS [] ms).map prD)) _ _
  rw [numb_map]
  have obk : ∀ h ∈ back f', okL h.g ∧ okL h.c := fun k hk => by
    obtain ⟨x, hx, e1, e2⟩ := back_mem hk
    rw [e1, e2]
    exact ⟨(of x hx).2, (of x hx).1⟩
  generalize hb : back f' = b at *
  refine forA_inv _ (fun r a => ∃ (mv : Int) (i : Nat) (acc : List D) (r7 r8 r9 r10 r11 r12 r13 r14 : Option AV), joinD f' b s' (r.map (·.1)) mv i acc = some ds ∧ i ≤ b.length ∧ acc.length + r.length ≤ (mergeS [] ms).length ∧ (∀ e ∈ r, e.1 ∈ mergeS [] ms) ∧
    a = ⟨[some (.im (paD f')), some (.im (paD s')), some (.im (paD b)), some (.owl acc), some (.owl []), some (.im (.int mv)), some (.im (.int (i : Nat))), r7, r8, r9, r10, r11, r12, r13, r14], S⟩) ?_ ?_ _ _ ⟨0, 0, [], none, none, none, none, none, none, none, none, by simpa [List.zipIdx_map_fst] using hj, Nat.zero_le _, by simp, fun e he => by
      have := List.mem_map_of_mem (f := (·.1)) he
      simpa [List.zipIdx_map_fst] using this, rfl⟩
  · rintro ⟨q, n⟩ r a N ⟨mv, i, acc, r7, r8, r9, r10, r11, r12, r13, r14, ej, hi, hl, hm, rfl⟩ hN
    obtain ⟨q1, q2⟩ := hq q (hm _ List.mem_cons_self)
    rw [List.map_cons, joinD] at ej
    split at ej
    · cases ej
    rename_i l el
    have hll : l.length = (q.2 - q.1).toNat := by rw [layH_len el]; simp
    have hlM : l.length ≤ M := by omega
    have lmo : (l.map optS).length = l.length := List.length_map _
    have wb : (withinF b q.1 q.2).length ≤ f'.length := by rw [← lb]; exact List.length_filter_le _ _
    have ws : (withinF s' q.1 q.2).length ≤ s'.length := List.length_filter_le _ _
    have cb : csum (withinF b q.1 q.2) ≤ gsum f' := Nat.le_trans csum_filter (by rw [← hb]; exact Nat.le_of_eq csum_back)
    have cs : csum (withinF s' q.1 q.2) ≤ csum s' := csum_filter
    have okl : ∀ d ∈ l.map optS, okO d := fun d hd => by
      obtain ⟨o, ho, rfl⟩ := List.mem_map.mp hd
      refine layH_ok (fun h hh => ?_) (fun o ho => ?_) el o ho
      · rcases List.mem_append.mp hh with hh | hh
        · exact (obk h (within_at hh).1).1
        · exact (os h (within_at hh).1).1
      · rw [List.eq_of_mem_replicate ho]; exact .inl rfl
    have okold : ∀ d ∈ glueD (l.map optS) q.1 0 (withinF b q.1 q.2) [], okO d := glueD_ok okl (fun h hh => (obk h (within_at hh).1).2) (by simp)
    have oknew : ∀ d ∈ glueD (l.map optS) q.1 0 (withinF s' q.1 q.2) [], okO d := glueD_ok okl (fun h hh => (os h (within_at hh).1).2) (by simp)
    have mb : ((withinF b q.1 q.2).length + 1) * (l.map optS).length ≤ (f'.length + s'.length + 2) * M := Nat.mul_le_mul (by omega) (by omega)
    have msz : ((withinF s' q.1 q.2).length + 1) * (l.map optS).length ≤ (f'.length + s'.length + 2) * M := Nat.mul_le_mul (by omega) (by omega)
    generalize et : adv f' b q.1 (b.length - i) mv i = t at ej
    refine ⟨fun m a => ∃ mv' i', m = b.length - i' ∧ i' ≤ b.length ∧ adv f' b q.1 (b.length - i') mv' i' = t ∧ a = ⟨[some (.im (paD f')), some (.im (paD s')), some (.im (paD b)), some (.owl acc), some (.owl []), some (.im (.int mv')), some (.im (.int (i' : Nat))), some (.im (.int (n : Nat))), some (.im (.int q.1)), some (.im (.int q.2)), r10, r11, r12, r13, r14], S⟩, ⟨_, mv, i, rfl, hi, et, rfl⟩, ?_⟩
    rintro m a ⟨mv', i', rfl, hi', et', rfl⟩
    -- behind the inner walk
    have fin : t = (mv', i') → ∀ a, a = Ab.A.mk [some (.im (paD f')), some (.im (paD s')), some (.im (paD b)), some (.owl acc), some (.owl []), some (.im (.int mv')), some (.im (.int (i' : Nat))), some (.im (.int (n : Nat))), some (.im (.int q.1)), some (.im (.int q.2)), r10, r11, r12, r13, r14] S →
        sSeq (sPar 10 11 (fCall 3 fWithin (fCons (fVar 2) (fCons (fVar 8) (fCons (fVar 9) fNil)))) (fCall 3 fWithin (fCons (fVar 1) (fCons (fVar 8) (fCons (fVar 9) fNil)))))
          (sSeq (sSet 12 (fCall 3 fLinesB (fCons (fOp FAdd (fVar 10) (fVar 11)) (fCons (fVar 8) (fCons (fVar 9) fNil)))))
            (sIf (tB (fOp FIsN (fVar 12) (fC D.non))) (sApp 4 (fVar 7))
              (sSeq (sPar 13 14 (fCall 3 fRewr (fCons (fVar 12) (fCons (fVar 8) (fCons (fVar 10) fNil)))) (fCall 3 fRewr (fCons (fVar 12) (fCons (fVar 8) (fCons (fVar 11) fNil)))))
                (sIf (tB (fOp FNe (fVar 13) (fVar 14))) (sApp 3 (fTup (fCons (fOp FSub (fVar 8) (fVar 5)) (fCons (fVar 13) (fCons (fVar 14) fNil))))) sNx))))
          { nx := N, rt := (endA EA Q).rt, ex := (endA EA Q).ex, bk := sSeq (sIf (tLst (lVar 4)) (sRaiseE erConf (fTplL (lVar 4))) sNx) (sRet (fTplL (lVar 3))) (endA EA Q), ct := N } a := by
      rintro rfl a rfl
      refine ⟨rfl, b, q.1, q.2, rfl, by omega, rfl, s', q.1, q.2, rfl, by omega, ?_⟩
      refine ⟨by rw [List.length_map, List.length_map]; omega, rfl, withinF b q.1 q.2 ++ withinF s' q.1 q.2, q.1, q.2, ?_, q1, by omega, fun h hh => ?_, fun e => ?_, fun l' hl' => ?_⟩
      · show ([AV.im (.lst ((withinF b q.1 q.2).map hkD ++ (withinF s' q.1 q.2).map hkD)), AV.im (.int q.1), AV.im (.int q.2)] : List AV) = _
        rw [List.map_append]
      · rcases List.mem_append.mp hh with hh | hh
        · exact (within_at hh).2
        · exact (within_at hh).2
      · rw [el] at e; cases e
      · rw [el] at hl'; cases hl'
        refine ⟨rfl, l.map optS, q.1, withinF b q.1 q.2, rfl, fun h hh => (within_at hh).2.1, by omega, rfl, l.map optS, q.1, withinF s' q.1 q.2, rfl, fun h hh => (within_at hh).2.1, by omega, okO_cmps okold, okO_cmps oknew, ?_⟩
        rw [List.length_cons] at hl
        refine ite2 (fun hc => ?_) (fun hc => ?_)
        · rw [if_pos hc] at ej
          exact ⟨z3, by omega, hN _ ⟨mv', i', _, _, _, _, _, _, _, _, _, ej, hi', by rw [List.length_append, List.length_singleton]; omega, fun e he => hm e (List.mem_cons_of_mem _ he), rfl⟩⟩
        · rw [if_neg hc] at ej
          exact hN _ ⟨mv', i', acc, _, _, _, _, _, _, _, _, ej, hi', by omega, fun e he => hm e (List.mem_cons_of_mem _ he), rfl⟩
    have out : ∀ k h, b[i']? = some k → f'[i']? = some h → ¬ k.s < q.1 → t = (mv', i') := fun k h e1 e2 e3 => by
      have hlt := (List.getElem?_eq_some_iff.mp e1).1
      rw [show b.length - i' = (b.length - (i' + 1)) + 1 by omega, adv, e1, e2] at et'
      simp only [e3, if_false] at et'
      exact et'.symm
    refine ite2 (fun hc => ?_) (fun hc => ?_)
    · have hc : ((i' : Nat) : Int) < (((b.map hkD).length : Nat) : Int) := by simpa using hc
      rw [List.length_map] at hc
      have hlt : i' < b.length := by omega
      have e1 : b[i']? = some b[i'] := List.getElem?_eq_getElem hlt
      have e2 : f'[i']? = some (f'[i']'(by omega)) := List.getElem?_eq_getElem (by omega)
      refine ⟨hkD b[i'], atI_map e1, .int b[i'].s, rfl, ?_⟩
      refine ite2 (fun hd => ?_) (fun hd => ?_)
      · have hd : b[i'].s < q.1 := by simpa using hd
        refine ⟨hkD (f'[i']'(by omega)), atI_map e2, strsD (f'[i']'(by omega)).c, rfl, hkD (f'[i']'(by omega)), atI_map e2, strsD (f'[i']'(by omega)).g, rfl, b.length - (i' + 1), by omega, _, i' + 1, rfl, by omega, ?_, rfl⟩
        rw [show b.length - i' = (b.length - (i' + 1)) + 1 by omega, adv, e1, e2] at et'
        simp only [hd, if_true] at et'
        rw [List.length_map, List.length_map]
        exact et'
      · have hd : ¬ b[i'].s < q.1 := by simpa using hd
        exact fin (out _ _ e1 e2 hd) _ rfl
    · have hc : ¬ ((i' : Nat) : Int) < (((b.map hkD).length : Nat) : Int) := by simpa using hc
      rw [List.length_map] at hc
      have e0 : b.length - i' = 0 := by omega
      rw [e0, adv] at et'
      exact fin et'.symm _ rfl
  · rintro a ⟨mv, i, acc, r7, r8, r9, r10, r11, r12, r13, r14, ej, hi, hl, hm, rfl⟩
    rw [List.map_nil, joinD] at ej
    cases ej
    exact hfin
end
end Ab


namespace Ab
open PySem L2
/-! ### the law's own patches -/
def fApply : FD := fun _ xs S P => ∃ l p, xs = [.im (strsD l), .im (paD p)] ∧ okL l ∧ Fine p ∧ Short l p ∧ (∀ m, putOn l p = some m → P (strsD m) S) ∧ (putOn l p = none → P .non S)
def sumB (o : List Hk) (x : Int) : Int := match o with
  | [] => 0
  | k :: r => (if k.s < x then ((k.c.length : Nat) : Int) - ((k.g.length : Nat) : Int) else 0) + sumB r x
def ovL (p o : List Hk) : List Hk := p.map fun h => ⟨h.s + sumB o h.s, h.g, h.c⟩
def fOver : FD := fun _ xs S P => ∃ p o, xs = [.im (paD p), .im (paD o)] ∧ p.length < sizeLine ∧ (touchB p o = true → P .non S) ∧ (touchB p o = false → P (paD (ovL p o)) S)
def fSwapped : FD := fun _ xs S P => ∃ f s, xs = [.im (paD f), .im (paD s)] ∧ f.length < sizeLine ∧ s.length < sizeLine ∧ ((touchB s (back f) = true ∧ P .non S) ∨
  (touchB s (back f) = false ∧ touchB f (ovL s (back f)) = false ∧ P (.tup [paD (ovL s (back f)), paD (ovL f (ovL s (back f)))]) S))
section
variable {P : Program} {w : World} {K : PySem.W.Frag} {mg : Str → Option Value} {base : Heap} {Z : Cl}
abbrev s_l_apply : Stmt := top 31
abbrev n_l_apply : List Str := ["lines", "patch", "found", "here", "start", "gone", "come"]
theorem sc_l_apply : FnScope n_l_apply ["lines", "patch"] (defScope s_l_apply) := ⟨rfl, rfl, rfl, by decide +kernel, rfl, by decide +kernel, by decide +kernel⟩
theorem ok_l_apply {f : Addr} {fd : FuncData} (Fn : Fun K "_law_apply" "_law_apply" s_l_apply f fd) (Tb : Blt mg) : FnOk P w K mg base (L2.CX P w) 1 f fd ["lines", "patch"] (spA Z 2 fApply) := by
  refine aok Fn sc_l_apply rfl fun cdv A outer s H E hr => ?_
  have hp := passes_of (X := cxOf (L2.CX P w) P w K mg base n_l_apply "_law_apply" (defScope s_l_apply) f cdv A outer s H E) rfl
  have hu := hu64 hr
  refine ⟨_, (ss_cons (s_set 2 (atup aa_nil) sc_l_apply.nd)
    (ss_cons (s_set 3 ai sc_l_apply.nd)
    (ss_cons (s_for hp rfl (i_t (av 1)) (g_tp rfl (gs_cons (g_nm 4 sc_l_apply.nd) (gs_cons (g_nm 5 sc_l_apply.nd) (gs_cons (g_nm 6 sc_l_apply.nd) gs_nil))) (gl1 (gl1 (gl1 gl0))))
      (ss_cons (s_if (wor (tcmp ao_gt (av 4) (alen (av 0) Tb.len (by rfl)) (nomark _)) (wor1 (tcmp (ao_ne hu) (atpl (asl (av 0) (oso (av 4)) (oso (ao ao_add (av 4) (alen (av 5) Tb.len (by rfl))))) Tb.tuple (by rfl)) (av 5) (nomark _)))).at
        (ss_one (s_ret an))
        ss_nil)
      (ss_cons (s_set 2 (ao ao_add (ao ao_add (av 2) (atpl (asl (av 0) (oso (av 3)) (oso (av 4))) Tb.tuple (by rfl))) (av 6)) sc_l_apply.nd)
      (ss_one (s_set 3 (ao ao_add (av 4) (alen (av 5) Tb.len (by rfl))) sc_l_apply.nd)))))
    (ss_one (s_ret (ao ao_add (av 2) (atpl (asl (av 0) (oso (av 3)) ono) Tb.tuple (by rfl)))))))), fun EA xs S Q h hn => ?_⟩
  obtain ⟨l, p, rfl, ol, fp, sh, k1, k2⟩ := h
  have hl : (l.map D.str).length = l.length := List.length_map _
  have hsh : (p.length + 1) * l.length + csum p < sizeLine := by unfold Short at sh; omega
  refine ⟨Nat.zero_le _, ?_⟩
  refine forA_inv hkD (fun r a => ∃ (q : List Hk) (here : Int) (acc : List Str) (d : D) (r4 r5 r6 : Option AV), d = strsD acc ∧ p = q ++ r ∧ q.all (fits l) = true ∧ 0 ≤ here ∧ glue l here r acc = glue l 0 p [] ∧ acc.length + (r.length + 1) * l.length + csum r ≤ (p.length + 1) * l.length + csum p ∧
    a = ⟨[some (.im (strsD l)), some (.im (paD p)), some (.im d), some (.im (.int here)), r4, r5, r6], S⟩) ?_ ?_ p _ ⟨[], 0, [], _, _, _, _, rfl, rfl, rfl, Int.le_refl _, rfl, by simp, rfl⟩
  · rintro h r a N ⟨q, here, acc, _, r4, r5, r6, rfl, ep, hq, hh, eg, hs, rfl⟩ hN
    have hm : h ∈ p := by rw [ep]; simp
    have h0 := fp.s h hm
    have e0 : cutD (l.map D.str) (some h.s) (some (h.s + (h.g.map D.str).length)) = (cut l h.s (h.s + h.g.length)).map D.str := by
      rw [List.length_map, cutD_eq h0 (by omega), cut_map]
    have e1 : cutD (l.map D.str) (some here) (some h.s) = (cut l here h.s).map D.str := by rw [cutD_eq hh h0, cut_map]
    have c1 : (cut l here h.s).length ≤ l.length := cut_len
    have hs' : acc.length + (r.length + 1 + 1) * l.length + (h.c.length + csum r) ≤ (p.length + 1) * l.length + csum p := by simpa [csum] using hs
    have m1 : (r.length + 1 + 1) * l.length = (r.length + 1) * l.length + l.length := by rw [Nat.succ_mul]
    have z1 : ((acc.map D.str).length + (cutD (l.map D.str) (some here) (some h.s)).length) ≤ sizeLine := by rw [e1, List.length_map, List.length_map]; omega
    have z2 : ((acc.map D.str ++ cutD (l.map D.str) (some here) (some h.s)).length + (h.c.map D.str).length) ≤ sizeLine := by rw [e1, List.length_append, List.length_map, List.length_map, List.length_map]; omega
    have bad : fits l h = false → Q .non S := fun e => k2 (by
      unfold putOn
      rw [if_neg]
      intro hall
      have := List.all_eq_true.mp hall h hm
      rw [e] at this; cases this)
    refine ite2 (fun hc => ?_) (fun hc => ?_)
    · have hc : (((l.map D.str).length : Nat) : Int) < h.s := by simpa using hc
      rw [hl] at hc
      exact bad (by unfold fits; simp [show ¬ h.s ≤ (l.length : Int) by omega])
    · have hc : ¬ (((l.map D.str).length : Nat) : Int) < h.s := by simpa using hc
      rw [hl] at hc
      refine ⟨?_, okL_cmp (n := 8) (fp.g h hm), ?_⟩
      · show cmp 9 (.tup (cutD (l.map D.str) (some h.s) (some (h.s + (h.g.map D.str).length)))) = true
        rw [e0]
        exact okL_cmp (n := 8) (ol.cut _ _)
      · have sm : same (.tup (cutD (l.map D.str) (some h.s) (some (h.s + (h.g.map D.str).length)))) (strsD h.g) = decide (cut l h.s (h.s + h.g.length) = h.g) := by
          rw [e0]; exact same_strs
        show (if (!same (.tup (cutD (l.map D.str) (some h.s) (some (h.s + (h.g.map D.str).length)))) (strsD h.g)) = true then _ else _)
        rw [sm]
        refine ite2 (fun hd => ?_) (fun hd => ?_)
        · have hd : ¬ cut l h.s (h.s + h.g.length) = h.g := by simpa using hd
          exact bad (by unfold fits; simp [hd])
        · have hd : cut l h.s (h.s + h.g.length) = h.g := by simpa using hd
          have hf : fits l h = true := by unfold fits; simp [hd, show h.s ≤ (l.length : Int) by omega]
          refine ⟨z1, z2, hN _ ⟨q ++ [h], h.s + (h.g.map D.str).length, acc ++ cut l here h.s ++ h.c, _, _, _, _, ?_, by rw [ep]; simp, by simp [hq, hf], by omega, ?_, ?_, rfl⟩⟩
          · rw [strsD, List.map_append, List.map_append, ← e1]
          · rw [List.length_map]; exact eg
          · rw [List.length_append, List.length_append]; omega
  · rintro a ⟨q, here, acc, _, r4, r5, r6, rfl, ep, hq, hh, eg, hs, rfl⟩
    rw [List.append_nil] at ep
    subst ep
    have e1 : cutD (l.map D.str) (some here) none = (l.drop here.toNat).map D.str := by rw [cutD_end hh, List.map_drop]
    have hs' : acc.length + l.length ≤ (p.length + 1) * l.length + csum p := by simpa [csum] using hs
    have z1 : (acc.map D.str).length + (cutD (l.map D.str) (some here) none).length ≤ sizeLine := by rw [e1, List.length_map, List.length_map, List.length_drop]; omega
    refine ⟨z1, ?_⟩
    have := k1 (glue l 0 p []) (by unfold putOn; rw [if_pos hq])
    rw [← eg, glue, strsD, List.map_append, ← e1] at this
    exact this
abbrev s_l_over : Stmt := top 32
abbrev n_l_over : List Str := ["patch", "over", "found", "start", "gone", "come", "moved", "other", "lost", "new"]
theorem sc_l_over : FnScope n_l_over ["patch", "over"] (defScope s_l_over) := ⟨rfl, rfl, rfl, by decide +kernel, rfl, by decide +kernel, by decide +kernel⟩
theorem ok_l_over {f : Addr} {fd : FuncData} (Fn : Fun K "_law_over" "_law_over" s_l_over f fd) (Tb : Blt mg) : FnOk P w K mg base (L2.CX P w) 1 f fd ["patch", "over"] (spA Z 2 fOver) := by
  refine aok Fn sc_l_over rfl fun cdv A outer s H E hr => ?_
  have hp := passes_of (X := cxOf (L2.CX P w) P w K mg base n_l_over "_law_over" (defScope s_l_over) f cdv A outer s H E) rfl
  refine ⟨_, (ss_cons (s_own 2 (alst aa_nil) sc_l_over.nd)
    (ss_cons (s_for hp rfl (i_t (av 0)) (g_tp rfl (gs_cons (g_nm 3 sc_l_over.nd) (gs_cons (g_nm 4 sc_l_over.nd) (gs_cons (g_nm 5 sc_l_over.nd) gs_nil))) (gl1 (gl1 (gl1 gl0))))
      (ss_cons (s_set 6 ai sc_l_over.nd)
      (ss_cons (s_for hp rfl (i_t (av 1)) (g_tp rfl (gs_cons (g_nm 7 sc_l_over.nd) (gs_cons (g_nm 8 sc_l_over.nd) (gs_cons (g_nm 9 sc_l_over.nd) gs_nil))) (gl1 (gl1 (gl1 gl0))))
        (ss_cons (s_if (wand (tcmp ao_le (av 3) (ao ao_add (av 7) (alen (av 8) Tb.len (by rfl))) (nomark _)) (wand1 (tcmp ao_le (av 7) (ao ao_add (av 3) (alen (av 4) Tb.len (by rfl))) (nomark _)))).at
          (ss_one (s_ret an))
          ss_nil)
        (ss_one (s_set 6 (ao ao_add (av 6) (aif (tcmp ao_lt (av 7) (av 3) (nomark _)) (ao ao_sub (alen (av 9) Tb.len (by rfl)) (alen (av 8) Tb.len (by rfl))) ai)) sc_l_over.nd))))
      (ss_one (s_app 2 (atup (aa_cons (ao ao_add (av 3) (av 6)) (aa_cons (av 4) (aa_cons (av 5) aa_nil)))))))))
    (ss_one (s_ret (atplL (lv 2) Tb.tuple (by rfl)))))), fun EA xs S Q h hn => ?_⟩
  obtain ⟨p, o, rfl, hz, k1, k2⟩ := h
  have z3 : 3 ≤ sizeLine := sz3
  refine ⟨Nat.zero_le _, ?_⟩
  refine forA_inv hkD (fun r a => ∃ (q : List Hk) (fd : List D) (r3 r4 r5 r6 r7 r8 r9 : Option AV), fd = (ovL q o).map hkD ∧ p = q ++ r ∧ touchB q o = false ∧ a = ⟨[some (.im (paD p)), some (.im (paD o)), some (.owl fd), r3, r4, r5, r6, r7, r8, r9], S⟩) ?_ ?_ p _ ⟨[], _, _, _, _, _, _, _, _, rfl, rfl, rfl, rfl⟩
  · rintro h r a N ⟨q, _, r3, r4, r5, r6, r7, r8, r9, rfl, ep, hq, rfl⟩ hN
    have hm : h ∈ p := by rw [ep]; simp
    refine forA_inv hkD (fun r' a => ∃ (q' : List Hk) (mv : Int) (r7 r8 r9 : Option AV), o = q' ++ r' ∧ (∀ k ∈ q', touch h k = false) ∧ mv + sumB r' h.s = sumB o h.s ∧ a = ⟨[some (.im (paD p)), some (.im (paD o)), some (.owl ((ovL q o).map hkD)), some (.im (.int h.s)), some (.im (strsD h.g)), some (.im (strsD h.c)), some (.im (.int mv)), r7, r8, r9], S⟩) ?_ ?_ o _ ⟨[], 0, _, _, _, rfl, by simp, by omega, rfl⟩
    · rintro k r' a N' ⟨q', mv, r7, r8, r9, eo, hq', hs, rfl⟩ hN'
      have go : touch h k = false → ∀ mv', mv' + sumB r' h.s = sumB o h.s → N' ⟨[some (.im (paD p)), some (.im (paD o)), some (.owl ((ovL q o).map hkD)), some (.im (.int h.s)), some (.im (strsD h.g)), some (.im (strsD h.c)), some (.im (.int mv')), some (.im (.int k.s)), some (.im (strsD k.g)), some (.im (strsD k.c))], S⟩ := fun ht mv' hs' =>
        hN' _ ⟨q' ++ [k], mv', _, _, _, by rw [eo]; simp, fun z hz => by rcases List.mem_append.mp hz with hz | hz; exact hq' z hz; rw [List.mem_singleton.mp hz]; exact ht, hs', rfl⟩
      have add : touch h k = false → (if decide (k.s < h.s) = true then N' ⟨[some (.im (paD p)), some (.im (paD o)), some (.owl ((ovL q o).map hkD)), some (.im (.int h.s)), some (.im (strsD h.g)), some (.im (strsD h.c)), some (.im (.int (mv + ((((k.c.map D.str).length : Nat) : Int) - (((k.g.map D.str).length : Nat) : Int))))), some (.im (.int k.s)), some (.im (strsD k.g)), some (.im (strsD k.c))], S⟩
          else N' ⟨[some (.im (paD p)), some (.im (paD o)), some (.owl ((ovL q o).map hkD)), some (.im (.int h.s)), some (.im (strsD h.g)), some (.im (strsD h.c)), some (.im (.int (mv + 0))), some (.im (.int k.s)), some (.im (strsD k.g)), some (.im (strsD k.c))], S⟩) := fun ht => by
        rw [sumB] at hs
        refine ite2 (fun hc => ?_) (fun hc => ?_)
        · have hc : k.s < h.s := by simpa using hc
          rw [if_pos hc] at hs
          exact go ht _ (by rw [List.length_map, List.length_map]; omega)
        · have hc : ¬ k.s < h.s := by simpa using hc
          rw [if_neg hc] at hs
          exact go ht _ (by omega)
      refine ite2 (fun hc => ?_) (fun hc => ?_)
      · have hc : h.s ≤ k.s + (((k.g.map D.str).length : Nat) : Int) := by simpa using hc
        rw [List.length_map] at hc
        refine ite2 (fun hd => ?_) (fun hd => ?_)
        · have hd : k.s ≤ h.s + (((h.g.map D.str).length : Nat) : Int) := by simpa using hd
          rw [List.length_map] at hd
          refine k1 ?_
          unfold touchB
          rw [List.any_eq_true]
          exact ⟨h, hm, List.any_eq_true.mpr ⟨k, by rw [eo]; simp, by unfold touch; simp [hc, hd]⟩⟩
        · have hd : ¬ k.s ≤ h.s + (((h.g.map D.str).length : Nat) : Int) := by simpa using hd
          rw [List.length_map] at hd
          exact add (by unfold touch; simp [hd])
      · have hc : ¬ h.s ≤ k.s + (((k.g.map D.str).length : Nat) : Int) := by simpa using hc
        rw [List.length_map] at hc
        exact add (by unfold touch; simp [hc])
    · rintro a ⟨q', mv, r7, r8, r9, eo, hq', hs, rfl⟩
      rw [List.append_nil] at eo
      subst eo
      have hs : mv = sumB o h.s := by simpa [sumB] using hs
      subst hs
      have lq : ((ovL q o).map hkD).length = q.length := by simp [ovL]
      refine ⟨z3, by rw [lq]; have := congrArg List.length ep; simp at this; omega, hN _ ⟨q ++ [h], _, _, _, _, _, _, _, _, ?_, by rw [ep]; simp, ?_, rfl⟩⟩
      · unfold ovL
        rw [List.map_append, List.map_append]
        rfl
      · unfold touchB at hq ⊢
        rw [List.any_append, hq, Bool.false_or, List.any_cons, List.any_nil, Bool.or_false, List.any_eq_false]
        intro k hk
        rw [hq' k hk]
        simp
  · rintro a ⟨q, _, r3, r4, r5, r6, r7, r8, r9, rfl, ep, hq, rfl⟩
    rw [List.append_nil] at ep
    subst ep
    exact k2 hq
abbrev s_l_back : Stmt := top 33
abbrev n_l_back : List Str := ["patch", "found", "moved", "start", "gone", "come"]
theorem sc_l_back : FnScope n_l_back ["patch"] (defScope s_l_back) := ⟨rfl, rfl, rfl, by decide +kernel, rfl, by decide +kernel, by decide +kernel⟩
theorem ok_l_back {f : Addr} {fd : FuncData} (Fn : Fun K "_law_back" "_law_back" s_l_back f fd) (Tb : Blt mg) : FnOk P w K mg base (L2.CX P w) 1 f fd ["patch"] (spA Z 1 fTurned) := by
  refine aok Fn sc_l_back rfl fun cdv A outer s H E hr => ?_
  have hp := passes_of (X := cxOf (L2.CX P w) P w K mg base n_l_back "_law_back" (defScope s_l_back) f cdv A outer s H E) rfl
  refine ⟨_, (ss_cons (s_own 1 (alst aa_nil) sc_l_back.nd)
    (ss_cons (s_set 2 ai sc_l_back.nd)
    (ss_cons (s_for hp rfl (i_t (av 0)) (g_tp rfl (gs_cons (g_nm 3 sc_l_back.nd) (gs_cons (g_nm 4 sc_l_back.nd) (gs_cons (g_nm 5 sc_l_back.nd) gs_nil))) (gl1 (gl1 (gl1 gl0))))
      (ss_cons (s_app 1 (atup (aa_cons (ao ao_add (av 3) (av 2)) (aa_cons (av 5) (aa_cons (av 4) aa_nil)))))
      (ss_one (s_set 2 (ao ao_sub (ao ao_add (av 2) (alen (av 5) Tb.len (by rfl))) (alen (av 4) Tb.len (by rfl))) sc_l_back.nd))))
    (ss_one (s_ret (atplL (lv 1) Tb.tuple (by rfl))))))), fun EA xs S Q h hn => ?_⟩
  obtain ⟨p, rfl, hz, hq⟩ := h
  have z3 : 3 ≤ sizeLine := sz3
  refine ⟨Nat.zero_le _, ?_⟩
  refine forA_inv hkD (fun r a => ∃ (acc : List Hk) (fd : List D) (m : Int) (r3 r4 r5 : Option AV), fd = acc.map hkD ∧ acc ++ backF m r = back p ∧ acc.length + r.length = p.length ∧ a = ⟨[some (.im (paD p)), some (.owl fd), some (.im (.int m)), r3, r4, r5], S⟩) ?_ ?_ p _ ⟨[], _, 0, _, _, _, rfl, rfl, by simp, rfl⟩
  · rintro h r a N ⟨acc, _, m, r3, r4, r5, rfl, c1, c2, rfl⟩ hN
    rw [List.length_cons] at c2
    refine ⟨z3, by rw [List.length_map]; omega, hN _ ⟨acc ++ [⟨h.s + m, h.c, h.g⟩], _, m + (((h.c.map D.str).length : Nat) : Int) - (((h.g.map D.str).length : Nat) : Int), _, _, _, ?_, ?_, by simp; omega, rfl⟩⟩
    · rw [List.map_append]; rfl
    · rw [List.length_map, List.length_map, ← c1, backF]; simp
  · rintro a ⟨acc, _, m, r3, r4, r5, rfl, c1, c2, rfl⟩
    rw [backF, List.append_nil] at c1
    rw [← c1] at hq
    exact hq
abbrev s_l_swapped : Stmt := top 34
abbrev n_l_swapped : List Str := ["first", "second", "ahead"]
theorem sc_l_swapped : FnScope n_l_swapped ["first", "second"] (defScope s_l_swapped) := ⟨rfl, rfl, rfl, by decide +kernel, rfl, by decide +kernel, by decide +kernel⟩
theorem ok_l_swapped {f : Addr} {fd : FuncData} (Fn : Fun K "_law_swapped" "_law_swapped" s_l_swapped f fd) (D_law_over : Dfn P w K mg base Z 1 "_law_over" 2 fOver) (D_law_back : Dfn P w K mg base Z 1 "_law_back" 1 fTurned) : FnOk P w K mg base (L2.CX P w) 2 f fd ["first", "second"] (spA Z 2 fSwapped) := by
  refine aok Fn sc_l_swapped rfl fun cdv A outer s H E hr => ?_
  have tk := takes_of (X := cxOf (L2.CX P w) P w K mg base n_l_swapped "_law_swapped" (defScope s_l_swapped) f cdv A outer s H E) rfl rfl rfl rfl
  refine ⟨_, (ss_cons (s_set 2 (acl D_law_over hr (by decide) tk (aa_cons (av 1) (aa_cons (acl D_law_back hr (by decide) tk (aa_cons (av 0) aa_nil) (by rfl)) aa_nil)) (by rfl)) sc_l_swapped.nd)
    (ss_one (s_ret (aif (tcmp ao_isN (av 2) an (nomark _)) an (atup (aa_cons (av 2) (aa_cons (acl D_law_over hr (by decide) tk (aa_cons (av 0) (aa_cons (av 2) aa_nil)) (by rfl)) aa_nil))))))), fun EA xs S Q h hn => ?_⟩
  obtain ⟨f', s', rfl, z1, z2, hk⟩ := h
  have y2 : 2 ≤ sizeLine := sz3
  refine ⟨rfl, f', rfl, z1, rfl, s', back f', rfl, z2, fun ht => ?_, fun ht => ?_⟩
  · rcases hk with ⟨h1, h2⟩ | ⟨h1, _⟩
    · exact h2
    · rw [ht] at h1; cases h1
  · rcases hk with ⟨h1, _⟩ | ⟨h1, h2, h3⟩
    · rw [ht] at h1; cases h1
    · refine ⟨rfl, f', ovL s' (back f'), rfl, z1, ?_, ?_⟩
      · intro ht2; rw [ht2] at h2; cases h2
      · intro _; exact ⟨y2, h3⟩
end
end Ab


namespace Ab
open PySem L2
/-! ### an attribute as a target -/
def gFldL (K : PySem.W.Frag) (ta : TE) (f : Str) : TG := fun v σ H Q => ta σ H fun x H1 => ∃ a C dx fs, x = .ref a ∧ H1 a = some (.ins C dx fs) ∧ Cls K C ∧ NoAttr K C f ∧ fs.length < 1000 ∧ Q σ (upd H1 a (.ins C dx (putF f v fs)))
theorem pg_fld {X : Cx} {o : Expr} {f : Str} {pos : Pos} {ta : TE} (ha : PE X o ta) : PG X (.Attribute o f pos) (gFldL X.K ta f) := by
  refine ⟨fun pins s σ H v u Q I r h => ?_⟩
  rw [assign_Attribute]
  refine wpAny_bind (wpAny_holding (thn (ha.run pins s σ H _ I h) fun ov s1 ⟨x, H1, I1, rx, a, C, dx, fs, ex, ea, c, n, l, q⟩ => ?_))
  subst ex
  obtain rfl : ov = Value.ref a := rx
  exact wpAny_bind (wpAny_standAt (wpAny_bind (wpAny_holding (setattr_ok I1 ea c n l r fun s3 I3 => wpAny_release ⟨σ, _, I3, q⟩))))
section
variable {X : Cx} {Z : Cl} {W : WX} {e e1 e2 e3 : Expr} {es : List Expr} {f g h fv : FE} {fn : FN} {fa : FA} {fk : FK} {u w : FQ} {pos pos' apos p p2 p3 p4 p5 q1 q2 pt : Pos} {i j l : Nat} {x y z m : Str} {kt : Nat}
/-- self.patches[a], self.patches[b] = e -/
def sTwo (i : Nat) (u w : FQ) (f : FE) : FS := fun En a => f En.ex a fun d a1 => match d, a1.ρ[i]?, a1.S with
  | .tup [d1, d2], some (some .stk), some S => u a1 fun k1 => match k1 with
    | .str k1 => S.patches.length + 1 < sizeLine ∧ w ⟨a1.ρ, some { S with patches := putD S.patches k1 d1 }⟩ fun k2 => match k2 with
      | .str k2 => En.nx ⟨a1.ρ, some { S with patches := putD (putD S.patches k1 d1) k2 d2 }⟩
      | _ => False
    | _ => False
  | _, _, _ => False
theorem s_two (i : Nat) (T : StkTxt X.K Z) (hu : X.A.units + 1 < cLine) (hc : X.calm = true) (b : AQ X Z e1 u) (c : AQ X Z e2 w) (a : AE X Z W e f) (hN : X.N[i]? = some x := by rfl) (hv : Vis X.env.scope x := by first | exact Or.inl rfl | exact Or.inr (Or.inl rfl) | exact Or.inr (Or.inr rfl)) (hd : (x == ("__debug__" : Str)) = false := by decide) (hcd : (x == ("__classdict__" : Str)) = false := by decide)
    (hb : attributeBase (.Name x p2) "patches" X.env (eval (.Name x p2) X.env) = eval (.Name x p2) X.env := by rfl) (hb2 : attributeBase (.Name x p4) "patches" X.env (eval (.Name x p4) X.env) = eval (.Name x p4) X.env := by rfl)
    (ha1 : ∀ v, assign (.Subscript (.Attribute (.Name x p2) "patches" p3) e1 q1) X.env v = (do let ov ← holding [v] (eval (.Attribute (.Name x p2) "patches" p3) X.env); let iv ← holding [v, ov] (eval e1 X.env); standAt q1; holding [v, ov, iv] (setItem ov iv v); release [v, ov, iv] []) := by intro _; rfl)
    (ha2 : ∀ v, assign (.Subscript (.Attribute (.Name x p4) "patches" p5) e2 q2) X.env v = (do let ov ← holding [v] (eval (.Attribute (.Name x p4) "patches" p5) X.env); let iv ← holding [v, ov] (eval e2 X.env); standAt q2; holding [v, ov, iv] (setItem ov iv v); release [v, ov, iv] []) := by intro _; rfl)
    (g2 : (assignEach [.Subscript (.Attribute (.Name x p4) "patches" p5) e2 q2] X.env).map (·.2) = assign (.Subscript (.Attribute (.Name x p4) "patches" p5) e2 q2) X.env :: (assignEach [] X.env).map (·.2) := by rfl)
    (g1 : (assignEach [.Subscript (.Attribute (.Name x p2) "patches" p3) e1 q1, .Subscript (.Attribute (.Name x p4) "patches" p5) e2 q2] X.env).map (·.2) = assign (.Subscript (.Attribute (.Name x p2) "patches" p3) e1 q1) X.env :: (assignEach [.Subscript (.Attribute (.Name x p4) "patches" p5) e2 q2] X.env).map (·.2) := by rfl)
    (hn : (assignEach [.Subscript (.Attribute (.Name x p2) "patches" p3) e1 q1, .Subscript (.Attribute (.Name x p4) "patches" p5) e2 q2] X.env).length = 2 := by rfl) (hst : (assignEach [.Subscript (.Attribute (.Name x p2) "patches" p3) e1 q1, .Subscript (.Attribute (.Name x p4) "patches" p5) e2 q2] X.env).findIdx? (·.1) = none := by rfl)
    (hs : swapsWithSole [.Tuple [.Subscript (.Attribute (.Name x p2) "patches" p3) e1 q1, .Subscript (.Attribute (.Name x p4) "patches" p5) e2 q2] kt pt] e pos.line X.env = pure false := by rfl)
    (hw : swappedStores [.Tuple [.Subscript (.Attribute (.Name x p2) "patches" p3) e1 q1, .Subscript (.Attribute (.Name x p4) "patches" p5) e2 q2] kt pt] e X.env = pure none := by rfl)
    (hz : (assignEach [.Tuple [.Subscript (.Attribute (.Name x p2) "patches" p3) e1 q1, .Subscript (.Attribute (.Name x p4) "patches" p5) e2 q2] kt pt] X.env).map (·.2) = [assign (.Tuple [.Subscript (.Attribute (.Name x p2) "patches" p3) e1 q1, .Subscript (.Attribute (.Name x p4) "patches" p5) e2 q2] kt pt) X.env] := by rfl) :
    AS X Z W (.Assign [.Tuple [.Subscript (.Attribute (.Name x p2) "patches" p3) e1 q1, .Subscript (.Attribute (.Name x p4) "patches" p5) e2 q2] kt pt] e pos) (sTwo i u w f) := by
  obtain ⟨t, pa, sa⟩ := a.ex
  obtain ⟨tb, pb, sb⟩ := b.ex
  obtain ⟨tc, pc, sc⟩ := c.ex
  refine ⟨_, ps_asg pa (pg_tup hc (pgs_cons (pg_sub (pe_fld (pe_var hN hv hd hcd) hb) pb (set_dict hu) ha1) (pgs_cons (pg_sub (pe_fld (pe_var hN hv hd hcd) hb2) pc (set_dict hu) ha2) pgs_nil g2) g1) hn hst) hs hw hz, fun B σ H G a Dn En r wk k h => sa B σ H G a _ _ _ r wk h fun d a1 v H1 G1 h1 e1 r1 x1 => ?_⟩
  split at h1
  · rename_i d1 d2 S hi hS
    obtain ⟨T', vs, rfl, c1, v1, r1', rfl, c2, v2, r2', rfl, c3, rfl⟩ := x1
    obtain ⟨vv, k1, q, k2, rfl⟩ := r1.sl i _ hi
    obtain ⟨q', pd, dx, vb, vw, ws, b1, b2, b3, b4, b5, b6, b7, b8, b9, b10, b11, b12, b13⟩ := r1.at hS
    rw [k2] at b1; cases b1
    refine ⟨T', _, rfl, SqT.of (r1.gh _ _ c1), rfl, v1, _, rfl, _, k1, q, Z.stack, dx, _, _, rfl, b2, T.cl, T.np, flds_at.2.2.1, sb B σ H1 G1 a1 _ _ r1 h1 fun y z q2 y1 => ?_⟩
    cases y with
    | str n1 =>
      cases y1
      obtain ⟨hl, q2⟩ := q2
      refine ⟨pd, _, rfl, DPut.k (k := Sum.inr n1) b3 (by rw [← b8.len]; omega), ?_⟩
      have r2 := r1.pput (k := n1) hS k2 b2 b3 c2
      have hq2 : upd H1 pd (.dK (putK ws (Sum.inr n1) v1)) q = some (.ins Z.stack dx (flds vb vw (.ref pd) S.many)) := by rw [upd_ne b12]; exact b2
      refine ⟨v2, [], rfl, _, k1, q, Z.stack, dx, _, _, rfl, hq2, T.cl, T.np, flds_at.2.2.1, sc B σ _ G1 _ _ _ r2 q2 fun y z q3 y2 => ?_⟩
      cases y with
      | str n2 =>
        cases y2
        have r3 := r2.pput (k := n2) rfl k2 hq2 upd_same c3
        exact ⟨pd, _, rfl, DPut.k (k := Sum.inr n2) upd_same (by have := (b8.put (k := n1) c2).len; rw [← this]; have := putD_len (ks := S.patches) (k := n1) (d := d1); omega), rfl, k.nx _ _ _ _ r3 q3⟩
      | _ => exact q3.elim
    | _ => exact q2.elim
  · exact h1.elim
/-- self.base, self.patches = b, m, where m is one's own dict: it is given away -/
def sGive (i j l : Nat) : FS := fun En a => match a.ρ[i]?, a.S, a.ρ[j]?, a.ρ[l]? with
  | some (some .stk), some S, some (some (.im d)), some (some (.owd ks)) => En.nx ⟨(a.off l).ρ, some { S with base := d, patches := ks }⟩
  | _, _, _, _ => False
theorem Rel.offs1 {B : Base} {σ : St} {H G : Hp} {a : A} {i : Nat} {u : Option V} (r : Rel Z B σ H G a) (h : σ[i]? = some u) : Rel Z B σ H G (a.off i) := by
  have := r.drop (i := i) (u := u)
  rw [set_self h] at this
  exact this
theorem s_give (i j l : Nat) {k2 : Nat} {pt2 p6 p7 : Pos} (T : StkTxt X.K Z) (hc : X.calm = true) (hjl : j ≠ l := by decide) (hil : i ≠ l := by decide) (hN : X.N[i]? = some x := by rfl) (hNj : X.N[j]? = some y := by rfl) (hNl : X.N[l]? = some z := by rfl)
    (hv : Vis X.env.scope x := by first | exact Or.inl rfl | exact Or.inr (Or.inl rfl) | exact Or.inr (Or.inr rfl)) (hvj : Vis X.env.scope y := by first | exact Or.inl rfl | exact Or.inr (Or.inl rfl) | exact Or.inr (Or.inr rfl)) (hvl : Vis X.env.scope z := by first | exact Or.inl rfl | exact Or.inr (Or.inl rfl) | exact Or.inr (Or.inr rfl))
    (hd : (x == ("__debug__" : Str)) = false := by decide) (hcd : (x == ("__classdict__" : Str)) = false := by decide) (hdj : (y == ("__debug__" : Str)) = false := by decide) (hcdj : (y == ("__classdict__" : Str)) = false := by decide) (hdl : (z == ("__debug__" : Str)) = false := by decide) (hcdl : (z == ("__classdict__" : Str)) = false := by decide)
    (h1 : starEach [.Name y p6, .Name z p7] X.env = (false, eval (.Name y p6) X.env) :: starEach [.Name z p7] X.env := by rfl) (h2 : starEach [.Name z p7] X.env = (false, eval (.Name z p7) X.env) :: starEach [] X.env := by rfl)
    (g2 : (assignEach [.Attribute (.Name x p4) "patches" p5] X.env).map (·.2) = assign (.Attribute (.Name x p4) "patches" p5) X.env :: (assignEach [] X.env).map (·.2) := by rfl)
    (g1 : (assignEach [.Attribute (.Name x p2) "base" p3, .Attribute (.Name x p4) "patches" p5] X.env).map (·.2) = assign (.Attribute (.Name x p2) "base" p3) X.env :: (assignEach [.Attribute (.Name x p4) "patches" p5] X.env).map (·.2) := by rfl)
    (hn : (assignEach [.Attribute (.Name x p2) "base" p3, .Attribute (.Name x p4) "patches" p5] X.env).length = 2 := by rfl) (hst : (assignEach [.Attribute (.Name x p2) "base" p3, .Attribute (.Name x p4) "patches" p5] X.env).findIdx? (·.1) = none := by rfl)
    (hs : swapsWithSole [.Tuple [.Attribute (.Name x p2) "base" p3, .Attribute (.Name x p4) "patches" p5] kt pt] (.Tuple [.Name y p6, .Name z p7] k2 pt2) pos.line X.env = pure false := by rfl)
    (hw : swappedStores [.Tuple [.Attribute (.Name x p2) "base" p3, .Attribute (.Name x p4) "patches" p5] kt pt] (.Tuple [.Name y p6, .Name z p7] k2 pt2) X.env = pure none := by rfl)
    (hz : (assignEach [.Tuple [.Attribute (.Name x p2) "base" p3, .Attribute (.Name x p4) "patches" p5] kt pt] X.env).map (·.2) = [assign (.Tuple [.Attribute (.Name x p2) "base" p3, .Attribute (.Name x p4) "patches" p5] kt pt) X.env] := by rfl) :
    AS X Z W (.Assign [.Tuple [.Attribute (.Name x p2) "base" p3, .Attribute (.Name x p4) "patches" p5] kt pt] (.Tuple [.Name y p6, .Name z p7] k2 pt2) pos) (sGive i j l) := by
  refine ⟨_, ps_asg (pe_tup (pa_cons (pe_var hNj hvj hdj hcdj) (pa_cons (pe_var hNl hvl hdl hcdl) pa_nil h2) h1)) (pg_tup hc (pgs_cons (pg_fld (pe_var hN hv hd hcd)) (pgs_cons (pg_fld (pe_var hN hv hd hcd)) pgs_nil g2) g1) hn hst) hs hw hz, fun B σ H G a Dn En r wk k h => ?_⟩
  unfold sGive at h
  split at h
  · rename_i S d ks hi hS hj hl
    obtain ⟨vj, j1, j2⟩ := r.sl j _ hj
    obtain ⟨vl, l1, p', ws', rfl, l3, l4, l5, l6, l7⟩ := r.sl l _ hl
    refine ⟨vj, j1, _, l1, by show 2 ≤ sizeLine; rw [sizeLine_eq]; omega, fun T' hT => ?_⟩
    have r1 := r.unknown (o := .tup [vj, .ref p']) hT
    obtain ⟨vv, k1, q, k2, rfl⟩ := r1.sl i _ hi
    obtain ⟨q', pd, dx, vb, vw, ws, b1, b2, b3, b4, b5, b6, b7, b8, b9, b10, b11, b12, b13⟩ := r1.at hS
    rw [k2] at b1; cases b1
    refine ⟨T', _, rfl, SqT.of upd_same, rfl, vj, _, rfl, _, k1, q, Z.stack, dx, _, rfl, b2, T.cl, T.nb, (by show 4 < 1000; decide), ?_⟩
    have r2 := r1.fld (x := .base) (d := d) hS k2 b2 j2 rfl
    refine ⟨.ref p', [], rfl, _, k1, q, Z.stack, dx, _, rfl, upd_same, T.cl, T.np, (by show 4 < 1000; decide), rfl, ?_⟩
    have np' : p' ≠ q := fun e => (b11 l _ hl rfl).1 (by rw [l1, e])
    have nT : p' ≠ T' := fun e => by rw [e, hT] at l3; cases l3
    have r3 : Rel Z B σ _ G ⟨(a.off l).ρ, some { S with base := d }⟩ := r2.offs1 l1
    have hp' : (upd (upd H T' (.tup [vj, .ref p'])) q (.ins Z.stack dx (putF Fd.base.name vj (flds vb vw (.ref pd) S.many)))) p' = some (.dK ws') := by rw [upd_ne np', upd_ne nT]; exact l3
    have r4 := r3.pnew (ks := ks) (p := p') (vb := vj) (vw := vw) (pd := pd) (dx := dx) rfl k2 upd_same hp' l4 l5 l6 fun jj y hj' hy hz' => ?_
    · exact k.nx _ _ _ _ r4 h
    · have hj' : (a.ρ.set l none)[jj]? = some (some y) := hj'
      rw [List.getElem?_set] at hj'
      by_cases e : l = jj
      · rw [if_pos e] at hj'
        split at hj' <;> cases hj'
      · rw [if_neg e] at hj'
        exact r.dis l jj p' _ _ e hl rfl hj' hy l1 hz'
  · exact h.elim
end
end Ab


namespace Ab
open PySem L2
/-! ### a copy that may be taken back -/
mutual
/-- no dict within -/
def nd : D → Bool
  | .dct _ => false
  | .xt _ => false
  | .tup ds => nds ds
  | .lst ds => nds ds
  | _ => true
def nds : List D → Bool
  | [] => true
  | d :: ds => nd d && nds ds
end
def less (G : Hp) (p : Addr) : Hp := fun x => if x = p then none else G x
theorem less_ne {G : Hp} {p x : Addr} (h : x ≠ p) : less G p x = G x := by unfold less; rw [if_neg h]
theorem less_same {G : Hp} {p : Addr} : less G p p = none := by unfold less; rw [if_pos rfl]
theorem less_ex {G : Hp} {p : Addr} : Ex (less G p) G := fun x o h => by
  by_cases e : x = p
  · rw [e, less_same] at h; cases h
  · rw [less_ne e] at h; exact h
mutual
theorem R.less {G : Hp} {p : Addr} {ws : List (Key × V)} (hp : G p = some (.dK ws)) : ∀ {d : D} {v : V}, nd d = true → R G d v → R (less G p) d v
  | .non, _, _, h => h
  | .bl _, _, _, h => h
  | .int _, _, _, h => h
  | .str _, _, _, h => h
  | .dct _, _, n, _ => by simp [nd] at n
  | .xt _, _, n, _ => by simp [nd] at n
  | .tup ds, _, n, h => by
    obtain ⟨a, vs, rfl, h1, h2⟩ := h
    exact ⟨a, vs, rfl, by rw [less_ne (fun e => by rw [e, hp] at h1; cases h1)]; exact h1, Rs.less hp (by simpa [nd] using n) h2⟩
  | .lst ds, _, n, h => by
    obtain ⟨a, vs, rfl, h1, h2⟩ := h
    exact ⟨a, vs, rfl, by rw [less_ne (fun e => by rw [e, hp] at h1; cases h1)]; exact h1, Rs.less hp (by simpa [nd] using n) h2⟩
theorem Rs.less {G : Hp} {p : Addr} {ws : List (Key × V)} (hp : G p = some (.dK ws)) : ∀ {ds : List D} {vs : List V}, nds ds = true → Rs G ds vs → Rs (less G p) ds vs
  | [], _, _, h => h
  | d :: ds, _, n, h => by
    obtain ⟨v, r, rfl, h1, h2⟩ := h
    have n' : nd d = true ∧ nds ds = true := by simpa [nds] using n
    exact ⟨v, r, rfl, R.less hp n'.1 h1, Rs.less hp n'.2 h2⟩
end
theorem Rk_less {G : Hp} {p : Addr} {ws : List (Key × V)} (hp : G p = some (HO.dK ws)) : ∀ (ks : List (Str × D)) (us : List (Key × V)), (∀ e ∈ ks, nd e.2 = true) → Rk G ks us → Rk (less G p) ks us
  | [], _, _, h => h
  | (k, d) :: ks, _, n, h => by
    obtain ⟨v, r, rfl, h1, h2⟩ := h
    exact ⟨v, r, rfl, R.less hp (n _ List.mem_cons_self) h1, Rk_less hp ks r (fun e he => n e (List.mem_cons_of_mem _ he)) h2⟩
section
variable {X : Cx} {Z : Cl} {W : WX} {e e1 e2 e3 : Expr} {es : List Expr} {f g h fk fv : FE} {fn : FN} {fa : FA} {u w : FQ} {pos pos' apos p p2 p3 p4 p5 q1 q2 pt : Pos} {i j l : Nat} {x y z m : Str} {kt : Nat}
/-- x = (list(..), dict(..)) -/
def sKept (i : Nat) (f : FN) (g : FN) : FS := fun En a => f En.ex a fun n a1 => match n with
  | .owl ws => g En.ex a1 fun n2 a2 => match n2 with
    | .owd ks => En.nx (a2.put i (.kept ws ks))
    | _ => False
  | _ => False
theorem s_kept (i : Nat) {gn : FN} {kk : Nat} (a : AN X Z W e1 fn) (b : AN X Z W e2 gn) (hN : X.N.Nodup) (hi : X.N[i]? = some x := by rfl) (hx : Loc X.env.scope x := by first | exact Or.inl rfl | exact Or.inr rfl) (h1 : starEach [e1, e2] X.env = (false, eval e1 X.env) :: starEach [e2] X.env := by rfl) (h2 : starEach [e2] X.env = (false, eval e2 X.env) :: starEach [] X.env := by rfl)
    (hs : swapsWith (.Tuple [e1, e2] kk pt) (some (.Name x pos')) pos.line X.env = pure false := by rfl) (hf : X.fn x = true ∨ X.env.scope.names.lookup x = some .local := by first | exact .inl rfl | exact .inr rfl) : AS X Z W (.Assign [.Name x pos'] (.Tuple [e1, e2] kk pt) pos) (sKept i fn gn) := by
  obtain ⟨ta, pa, sa⟩ := a.ex
  obtain ⟨tb, pb, sb⟩ := b.ex
  refine ⟨_, ps_set hN hi hx (pe_tup (pa_cons pa (pa_cons pb pa_nil h2) h1)) hs hf, fun B σ H G a Dn En r w k h => sa B σ H G a _ _ _ r w h fun n a1 l o H1 G1 h1 e1 r1 hl hn => ?_⟩
  split at h1
  · rename_i ws
    cases o with
    | lst vs =>
      have k1 := r1.known (o := .lst vs) hl
      have eg1 := r1.ex (o := .lst vs) hl
      refine sb B σ _ _ a1 _ _ _ k1 w h1 fun n2 a2 p' o2 H2 G2 h2 e2 r2 hp hn2 => ?_
      split at h2
      · rename_i ks
        cases o2 with
        | dK us =>
          have k2 := r2.known (o := .dK us) hp
          have eg2 := r2.ex (o := .dK us) hp
          have hp0 : B.H0 p' = none := by
            cases q : B.H0 p' with
            | none => rfl
            | some w => exact absurd hp (r2.dom p' (by rw [q]; simp))
          have gp0 : B.G0 p' = none := r2.g0.free (r2.gh.free hp)
          refine ⟨by show 2 ≤ sizeLine; rw [sizeLine_eq]; omega, fun T hT => ?_⟩
          have k3 := k2.known (o := .tup [.ref l, .ref p']) hT
          have eg3 := k2.ex (o := .tup [.ref l, .ref p']) hT
          refine k.nx _ _ _ _ (k3.set (x := .kept ws ks) ⟨T, l, p', vs, us, rfl, upd_same, eg3 _ _ (eg2 _ _ (e2 _ _ upd_same)), (((hn : Rs G1 ws vs).mono eg1).mono (e2.trans eg2)).mono eg3, eg3 _ _ upd_same, ((hn2 : Rk G2 ks us).mono eg2).mono eg3, hp0, gp0⟩ fun z => by cases z) h2
        | _ => exact hn2.elim
      · exact h2.elim
    | _ => exact hn.elim
  · exact h1.elim
/-- self.words, self.patches = kept; raise Refused(word) -/
def sBack (i l j : Nat) : FS := fun En a => match a.ρ[i]?, a.S, a.ρ[l]?, a.ρ[j]? with
  | some (some .stk), some S, some (some (.kept ws ks)), some (some (.im (.str s))) => nd S.base = true ∧ nds ws = true ∧ (∀ e ∈ ks, nd e.2 = true) ∧ En.ex (.refused s) (some { S with words := .lst ws, patches := ks })
  | _, _, _, _ => False
theorem s_back (i l j : Nat) {p6 p7 p8 p9 p10 : Pos} {kk : Nat} (T : StkTxt X.K Z) (Te : Errs X.prog X.K X.mg Z) (hr : Room kk X.A) (hc : X.calm = true) (tk : Takes X W) (hN : X.N[i]? = some x := by rfl) (hNl : X.N[l]? = some z := by rfl) (hNj : X.N[j]? = some y := by rfl)
    (hv : Vis X.env.scope x := by first | exact Or.inl rfl | exact Or.inr (Or.inl rfl) | exact Or.inr (Or.inr rfl)) (hvl : Vis X.env.scope z := by first | exact Or.inl rfl | exact Or.inr (Or.inl rfl) | exact Or.inr (Or.inr rfl)) (hvj : Vis X.env.scope y := by first | exact Or.inl rfl | exact Or.inr (Or.inl rfl) | exact Or.inr (Or.inr rfl))
    (hd : (x == ("__debug__" : Str)) = false := by decide) (hcd : (x == ("__classdict__" : Str)) = false := by decide) (hdj : (y == ("__debug__" : Str)) = false := by decide) (hcdj : (y == ("__classdict__" : Str)) = false := by decide) (hdl : (z == ("__debug__" : Str)) = false := by decide) (hcdl : (z == ("__classdict__" : Str)) = false := by decide)
    (hg : Gl X "Refused" := by rfl) (hst1 : starEach [.Name y p9] X.env = (false, eval (.Name y p9) X.env) :: starEach [] X.env := by rfl) (hpl : (backTo p8 (starEach [] X.env)).any (·.1) = false := by rfl)
    (g2 : (assignEach [.Attribute (.Name x p4) "patches" p5] X.env).map (·.2) = assign (.Attribute (.Name x p4) "patches" p5) X.env :: (assignEach [] X.env).map (·.2) := by rfl)
    (g1 : (assignEach [.Attribute (.Name x p2) "words" p3, .Attribute (.Name x p4) "patches" p5] X.env).map (·.2) = assign (.Attribute (.Name x p2) "words" p3) X.env :: (assignEach [.Attribute (.Name x p4) "patches" p5] X.env).map (·.2) := by rfl)
    (hn : (assignEach [.Attribute (.Name x p2) "words" p3, .Attribute (.Name x p4) "patches" p5] X.env).length = 2 := by rfl) (hst : (assignEach [.Attribute (.Name x p2) "words" p3, .Attribute (.Name x p4) "patches" p5] X.env).findIdx? (·.1) = none := by rfl)
    (hs : swapsWithSole [.Tuple [.Attribute (.Name x p2) "words" p3, .Attribute (.Name x p4) "patches" p5] kt pt] (.Name z p6) pos.line X.env = pure false := by rfl)
    (hw : swappedStores [.Tuple [.Attribute (.Name x p2) "words" p3, .Attribute (.Name x p4) "patches" p5] kt pt] (.Name z p6) X.env = pure none := by rfl)
    (hz : (assignEach [.Tuple [.Attribute (.Name x p2) "words" p3, .Attribute (.Name x p4) "patches" p5] kt pt] X.env).map (·.2) = [assign (.Tuple [.Attribute (.Name x p2) "words" p3, .Attribute (.Name x p4) "patches" p5] kt pt) X.env] := by rfl) :
    ASs X Z W [.Assign [.Tuple [.Attribute (.Name x p2) "words" p3, .Attribute (.Name x p4) "patches" p5] kt pt] (.Name z p6) pos, .Raise (some (.Call (.Name "Refused" p7) [.Name y p9] [] p8)) none p10] (sBack i l j) := by
  obtain ⟨qual, fI, Tr⟩ := Te.rf
  refine ⟨_, pss_cons (ps_asg (pe_var hNl hvl hdl hcdl) (pg_tup hc (pgs_cons (pg_fld (pe_var hN hv hd hcd)) (pgs_cons (pg_fld (pe_var hN hv hd hcd)) pgs_nil g2) g1) hn hst) hs hw hz) (pss_one (ps_raiseE hc Tr PySem.Vx.fld_branch hr tk (pa_cons (pe_var hNj hvj hdj hcdj) pa_nil hst1) hg (by decide) hst1 hpl)), fun B σ H G a Dn En r wk k h => ?_⟩
  unfold sBack at h
  split at h
  · rename_i S ws ks s hi hS hl hj
    obtain ⟨n1, n2, n3, h⟩ := h
    obtain ⟨vl, l1, T', lp, pp, vs, us, rfl, l2, l3, l4, l5, l6, l7, l8⟩ := r.sl l _ hl
    obtain ⟨vj, j1, rfl⟩ := r.sl j _ hj
    obtain ⟨vv, k1, q, k2, rfl⟩ := r.sl i _ hi
    obtain ⟨q', pd, dx, vb, vw, wws, b1, b2, b3, b4, b5, b6, b7, b8, b9, b10, b11, b12, b13⟩ := r.at hS
    rw [k2] at b1; cases b1
    have hTne : T' ≠ q := fun e => by rw [e, b4] at l2; cases l2
    have ppq : pp ≠ q := fun e => by rw [e, b4] at l5; cases l5
    refine ⟨_, l1, T', _, rfl, SqT.of (r.gh _ _ l2), rfl, .ref lp, _, rfl, _, k1, q, Z.stack, dx, _, rfl, b2, T.cl, T.nw, (by show 4 < 1000; decide), ?_⟩
    refine ⟨.ref pp, [], rfl, _, k1, q, Z.stack, dx, _, rfl, upd_same, T.cl, T.np, (by show 4 < 1000; decide), rfl, ?_⟩
    have e1 : putF ("patches" : Str) (.ref pp) (putF ("words" : Str) (.ref lp) (flds vb vw (.ref pd) S.many)) = flds vb (.ref lp) (.ref pp) S.many := rfl
    rw [upd_upd, e1]
    refine ⟨_, j1, _, rfl, fun dd hdd => ?_⟩
    have hst : StkAt Z.stack (upd H q (.ins Z.stack dx (flds vb (.ref lp) (.ref pp) S.many))) (less G pp) q pp { S with words := .lst ws, patches := ks } := by
      refine ⟨dx, vb, .ref lp, us, upd_same, ?_, ?_, less_same, R.less l5 n1 b6, ?_, Rk_less l5 _ _ n3 l6⟩
      · rw [upd_ne ppq]; exact r.gh _ _ l5
      · by_cases e : q = pp
        · rw [e]; exact less_same
        · rw [less_ne e]; exact b4
      · exact R.less l5 (by simpa [nd] using n2) ⟨lp, vs, rfl, l3, l4⟩
    have hfin : RelS Z B (upd H q (.ins Z.stack dx (flds vb (.ref lp) (.ref pp) S.many))) (less G pp) (some { S with words := .lst ws, patches := ks }) := by
      have eg : Ex (less G pp) G := less_ex
      refine ⟨fun z w hz => ?_, fun z w hz => ?_, fun z hz => ?_, fun z hz => ?_, fun z w hz hm => ?_, ⟨q, pp, k2, hst, .inr l7⟩, fun z hz => ?_, r.qn, fun t ht => ?_⟩
      · have hz' := eg _ _ hz
        have : z ≠ q := fun e => by rw [e, b4] at hz'; cases hz'
        rw [upd_ne this]; exact r.gh _ _ hz'
      · have : z ≠ pp := fun e => by rw [e, l8] at hz; cases hz
        rw [less_ne this]; exact r.g0 _ _ hz
      · refine r.new z fun e => hz ?_
        by_cases e2 : z = pp
        · rw [e2]; exact less_same
        · rw [less_ne e2]; exact e
      · by_cases e : z = q
        · rw [e, upd_same]; simp
        · rw [upd_ne e]; exact r.dom z hz
      · have e : z ≠ q := fun e => hm (.inl (by rw [e]; exact k2))
        rw [upd_ne e]; exact r.keep z w hz hm
      · obtain ⟨s1, s2⟩ := r.rn z hz
        have s4 := s1
        obtain ⟨i0, i1, i3, s', ns, t1, t2, t3, t4⟩ := s4
        have nzq : z ≠ q := ne_of t1 b2 (by intro z; cases z)
        refine ⟨⟨i0, i1, i3, s', ns, by rw [upd_ne nzq]; exact t1, ?_, ?_, t4⟩, s2⟩
        · by_cases e : z = pp
          · rw [e]; exact less_same
          · rw [less_ne e]; exact t2
        · have : s' ≠ pp := fun e => by rw [e, l5] at t3; cases t3
          rw [less_ne this]; exact t3
      · obtain ⟨⟨ps, m1, m2⟩, m3, m4⟩ := r.tb t ht
        refine ⟨⟨ps, by rw [upd_ne (b13 t ht).1]; exact m1, m2⟩, ?_, m4⟩
        by_cases e : t = pp
        · rw [e]; exact less_same
        · rw [less_ne e]; exact m3
    exact wk (.refused s) σ _ (less G pp) _ _ _ (hfin.unknown hdd) h ⟨rfl, dd, rfl, upd_same⟩
  · exact h.elim
end
end Ab


namespace Ab
open PySem L2
/-- a dict comprehension's walk -/
theorem dc_walk {J : It} {n : Nat} {Gd : Hp → Prop} {Y : Nat → Hp → V → Hp → Prop} (wk : Walk J n Gd Y) {g : TG} {tt : TT} {tk tv : TE} {vs : List Nat} {σ : L2.St} {H1 : Hp} {Dl : Addr} {Qd : Hp → Prop} (Pv : Nat → Hp → Prop) (h0 : Pv 0 (upd H1 Dl (.dK []))) (hG : ∀ i H, i ≤ n → Pv i H → Gd H)
    (hs : ∀ i x H H', i < n → Pv i H → Y i H x H' → g x (wipe σ vs) H' fun σ2 H2 => wipe σ2 vs = wipe σ vs ∧ tt σ2 H2 fun b H3 => if b = true then tk σ2 H3 fun y H4 => tv σ2 H4 fun z H5 => ∃ kvs k, y = kV k ∧ H5 Dl = some (.dK kvs) ∧ kvs.length < sizeLine ∧ Pv (i + 1) (upd H5 Dl (.dK (putK kvs k z))) else Pv (i + 1) H3)
    (hd : ∀ H, Pv n H → Qd H) : ∃ W : Nat → Nat → Hp → Prop, (∃ m, W 0 m (upd H1 Dl (.dK []))) ∧ ∀ i m H, W i m H → (J.stop i H ∧ Qd H) ∨ (J.go i H ∧ ∃ Nx : Hp → Prop, (∀ H', Nx H' → ∃ m', m' < m ∧ W (i + 1) m' H') ∧
      ∀ x H', J.yld i H x H' → g x (wipe σ vs) H' fun σ2 H2 => wipe σ2 vs = wipe σ vs ∧ tt σ2 H2 fun b H3 => if b = true then tk σ2 H3 fun y H4 => tv σ2 H4 fun z H5 => ∃ kvs k, y = kV k ∧ H5 Dl = some (.dK kvs) ∧ kvs.length < sizeLine ∧ Nx (upd H5 Dl (.dK (putK kvs k z))) else Nx H3) := by
  refine ⟨fun i m H => m + i = n ∧ Pv i H, ⟨n, rfl, h0⟩, fun i m H ⟨hm, hp⟩ => ?_⟩
  by_cases hi : i < n
  · exact .inr ⟨wk.goes i H hi (hG i H (by omega) hp), Pv (i + 1), fun H' hp' => ⟨n - (i + 1), by omega, by omega, hp'⟩, fun x H' y => hs i x H H' hi hp (wk.yields i H x H' hi (hG i H (by omega) hp) y)⟩
  · have e : i = n := by omega
    subst e
    exact .inl ⟨wk.stops H (hG i H (Nat.le_refl _) hp), hd H hp⟩
def dcA (g : FG) (fk fv : FE) (vs : List Nat) : List D → A → List (Str × D) → (List (Str × D) → Option Stk → Prop) → Prop
  | [], a, acc, P => P acc a.S
  | d :: ds, a, acc, P => g d (a.hide.offs vs) fun a1 => fk E0A a1 fun y a2 => fv E0A a2 fun z a3 => match y with
    | .str k => acc.length < sizeLine ∧ dcA g fk fv vs ds ⟨a.ρ, a3.S⟩ (putD acc k z) P
    | _ => False
section
variable {X : Cx} {Z : Cl} {W : WX} {e e1 e2 e3 : Expr} {es : List Expr} {f g h fk fv : FE} {fn : FN} {fa : FA} {u w : FQ} {pos pos' apos p p2 p3 p4 p5 q1 q2 pt : Pos} {i j l : Nat} {x y z m : Str} {kt : Nat} {ws : List Nat} {gt : FG} {fi : FI} {tg elt iter kx vx : Expr}
/-- self.patches = {k: v for .. in ..} -/
def sFldDc (i : Nat) (fi : FI) (gt : FG) (fk fv : FE) (vs : List Nat) : FS := fun En a => fi En.ex a fun ds a' => dcA gt fk fv vs ds a' [] fun acc S => match a'.ρ[i]?, S with
  | some (some .stk), some S => En.nx ⟨a'.ρ, some { S with patches := acc }⟩
  | _, _ => False
theorem s_fldDc (i : Nat) {scope : Scope} {own : List (Str × Nat)} (T : StkTxt X.K Z) (hc : X.calm = true) (hND : X.N.Nodup) (it : AI X Z W tg iter fi) (ok : BlkOk X.N X.env.scope scope own) (hw : ∀ j ∈ ws, j ∈ own.map (·.2))
    (hg : ∀ (s : Shared) (H : Hp) (C : Addr) (cl : List (Str × Addr)) (fp : List Addr), AG (X.blk s H scope (compEnvC scope cl C X.env) fp) Z tg ws gt)
    (hk : ∀ (s : Shared) (H : Hp) (C : Addr) (cl : List (Str × Addr)) (fp : List Addr), AE (X.blk s H scope (compEnvC scope cl C X.env) fp) Z W0 kx fk)
    (he : ∀ (s : Shared) (H : Hp) (C : Addr) (cl : List (Str × Addr)) (fp : List Addr), AE (X.blk s H scope (compEnvC scope cl C X.env) fp) Z W0 vx fv)
    (hN : X.N[i]? = some x := by rfl) (hv : Vis X.env.scope x := by first | exact Or.inl rfl | exact Or.inr (Or.inl rfl) | exact Or.inr (Or.inr rfl)) (hd : (x == ("__debug__" : Str)) = false := by decide) (hcd : (x == ("__classdict__" : Str)) = false := by decide)
    (hs : ∀ x, foldedSetIterable iter X.env x = pure x := by intro _; rfl) (hsw : swapsWith (.DictComp kx vx [⟨tg, iter, [], 0⟩] scope p) (some (.Attribute (.Name x p2) "patches" pos')) pos.line X.env = pure false := by rfl) :
    AS X Z W (.Assign [.Attribute (.Name x p2) "patches" pos'] (.DictComp kx vx [⟨tg, iter, [], 0⟩] scope p) pos) (sFldDc i fi gt fk fv (own.map (·.2))) := by
  obtain ⟨ti, pi, si⟩ := it.ex
  refine ⟨_, ps_fld (pe_var hN hv hd hcd) (pe_dc hc hND pi ok (fun s H C cl fp => (hg s H C cl fp).pg) (fun s H C cl fp => pts_nil) (fun s H C cl fp => (hk s H C cl fp).pe) (fun s H C cl fp => (he s H C cl fp).pe) hs) hsw, fun B σ H G a Dn En r w k h => si B σ H G a _ _ _ r w h fun ds a1 H1 G1 J h1 e1 r1 it => ?_⟩
  intro Dl hDl
  obtain ⟨Gd, Y, wk, gd, yl⟩ := it
  have rh := r1.here
  refine dc_walk wk (fun n H => ∃ G a2 acc us, a2.ρ = a1.ρ ∧ Rel Z { B with GK := G1 } σ H G a2 ∧ Loose { B with GK := G1 } σ H G a1.ρ Dl (.dK us) ∧ Rk G acc us ∧ dcA gt fk fv (own.map (·.2)) (ds.drop n) a2 acc fun acc S => match a1.ρ[i]?, S with
      | some (some .stk), some S => En.nx ⟨a1.ρ, some { S with patches := acc }⟩
      | _, _ => False)
    ⟨G1, a1, [], [], rfl, rh.unknown hDl, rh.loose hDl, rfl, h1⟩ (fun i H _ ⟨G, a, _, _, _, r, _⟩ => gd H (r.gk.trans r.gh)) ?_ ?_
  · rintro n x H H' hi ⟨G, a2, acc, us, ea, r, l, ra, q⟩ y
    obtain ⟨d, hd, hx⟩ := yl n H x H' hi (r.gk.trans r.gh) y
    have ed : ds.drop n = d :: ds.drop (n + 1) := by
      rw [List.drop_eq_getElem_cons hi]
      congr 1
      exact (List.getElem?_eq_some_iff.mp hd).2
    rw [ed] at q
    have go : ∀ (H2 G2 : Hp) (x : V), Ex G G2 → Rel Z { B with GK := G1 } σ H2 G2 a2 → Loose { B with GK := G1 } σ H2 G2 a1.ρ Dl (.dK us) → R G2 d x → canG Z gt ws x (L2.wipe σ (own.map (·.2))) H2 fun σ2 H2 => L2.wipe σ2 (own.map (·.2)) = L2.wipe σ (own.map (·.2)) ∧ L2.tYes σ2 H2 fun b H3 =>
        if b = true then canE Z W0 fk σ2 H3 fun y H4 => canE Z W0 fv σ2 H4 fun z H5 => ∃ kvs k, y = kV k ∧ H5 Dl = some (.dK kvs) ∧ kvs.length < sizeLine ∧ (∃ G a2 acc' us, a2.ρ = a1.ρ ∧ Rel Z { B with GK := G1 } σ (upd H5 Dl (.dK (putK kvs k z))) G a2 ∧ Loose { B with GK := G1 } σ (upd H5 Dl (.dK (putK kvs k z))) G a1.ρ Dl (.dK us) ∧ Rk G acc' us ∧ dcA gt fk fv (own.map (·.2)) (ds.drop (n + 1)) a2 acc' fun acc S => match a1.ρ[i]?, S with
            | some (some .stk), some S => En.nx ⟨a1.ρ, some { S with patches := acc }⟩
            | _, _ => False)
        else ∃ G a2 acc' us, a2.ρ = a1.ρ ∧ Rel Z { B with GK := G1 } σ H3 G a2 ∧ Loose { B with GK := G1 } σ H3 G a1.ρ Dl (.dK us) ∧ Rk G acc' us ∧ dcA gt fk fv (own.map (·.2)) (ds.drop (n + 1)) a2 acc' fun acc S => match a1.ρ[i]?, S with
            | some (some .stk), some S => En.nx ⟨a1.ρ, some { S with patches := acc }⟩
            | _, _ => False := fun H2 G2 x e2 r2 l2 hv => by
      obtain ⟨pd, hpd⟩ := r2.pd
      have ra2 := ra.mono e2
      have q : gt d (a2.hide.offs (own.map (·.2))) (fun a1' => fk E0A a1' fun y a2' => fv E0A a2' fun z a3 => match y with
          | .str k => acc.length < sizeLine ∧ dcA gt fk fv (own.map (·.2)) (ds.drop (n + 1)) ⟨a2.ρ, a3.S⟩ (putD acc k z) fun acc S => match a1.ρ[i]?, S with
            | some (some .stk), some S => En.nx ⟨a1.ρ, some { S with patches := acc }⟩
            | _, _ => False
          | _ => False) := q
      refine ⟨_, G2, a2.hide.offs (own.map (·.2)), d, _, (r2.sub hpd).wipe _, hv, q, fun a3 σ3 q3 r3 s3 len3 n3 => ⟨wipe_back hw len3 n3, ?_⟩⟩
      refine ⟨_, G2, a3, _, E0A, r3, wok0, q3, fun y a4 v4 H4 G4 q4 e4 r4 x4 => ?_⟩
      refine ⟨_, G4, a4, _, E0A, r4, wok0, q4, fun z a5 v5 H5 G5 q5 e5 r5 x5 => ?_⟩
      cases y with
      | str key =>
        cases x4
        have l5 := Loose.after r2 hpd (by rw [ea]; exact l2) r5.toRelS
        have r6 := r2.after hpd r5.toRelS
        have b6 := r6.bump (o' := .dK (putK us (Sum.inr key) v5)) l5
        exact ⟨us, Sum.inr key, rfl, l5.h, by rw [← ra.len]; exact q5.1, G5, ⟨a2.ρ, a5.S⟩, putD acc key z, _, ea, b6.1, by rw [← ea]; exact b6.2, (ra2.mono (e4.trans e5)).put x5, q5.2⟩
      | _ => exact q5.elim
    rcases hx with ⟨rfl, hx⟩ | ⟨p, o, rfl, hp, rfl, hx⟩
    · exact go H' G x (Ex.refl _) r l (hx.mono r.gk)
    · have hne : Dl ≠ p := fun e => by have := l.h; rw [e, hp] at this; cases this
      have l' : Loose { B with GK := G1 } σ (upd H p o) (upd G p o) a1.ρ Dl (.dK us) := by
        refine ⟨by rw [upd_ne hne]; exact l.h, by rw [upd_ne hne]; exact l.g, l.b, l.s, fun q hq k => l.q q hq ?_⟩
        obtain ⟨C, dx, fs, k1, k2⟩ := k
        rw [upd_ne (fun e => r.qh q hq (by rw [e]; exact hp))] at k1
        exact ⟨C, dx, fs, k1, k2⟩
      exact go _ _ _ (r.ex hp) (r.known hp) l' (hx G r.gk (r.gh.free hp))
  · rintro H ⟨G, a2, acc, us, ea, r, l, ra, q⟩
    rw [List.drop_length, dcA] at q
    have rb := r1.there r
    split at q
    · rename_i S hi hS
      rw [← ea] at hi
      obtain ⟨vv, k1, q', k2, rfl⟩ := rb.sl i _ hi
      obtain ⟨q2, pd, dx, vb, vw, wws, b1, b2, b3, b4, b5, b6, b7, b8, b9, b10, b11, b12, b13⟩ := rb.at hS
      rw [k2] at b1; cases b1
      have r4 := rb.pnew (ks := acc) (p := Dl) hS k2 b2 l.h l.g l.b ra fun j y hj hy => l.s j y (by rw [← ea]; exact hj) hy
      rw [ea] at r4
      exact ⟨_, k1, q', Z.stack, dx, _, rfl, b2, T.cl, T.np, (by show 4 < 1000; decide), k.nx _ _ _ _ r4 q⟩
    · exact q.elim
/-! ### a name that is bound to a list comprehension -/
theorem s_setLc (i : Nat) {gt : FG} {ft : FT} {fe : FE} {ifs : List Expr} {scope : Scope} {own : List (Str × Nat)} (hc : X.calm = true) (hND : X.N.Nodup) (it : AI X Z W tg iter fi) (ok : BlkOk X.N X.env.scope scope own) (hw : ∀ j ∈ ws, j ∈ own.map (·.2))
    (hg : ∀ (s : Shared) (H : Hp) (C : Addr) (cl : List (Str × Addr)) (fp : List Addr), AG (X.blk s H scope (compEnvC scope cl C X.env) fp) Z tg ws gt)
    (ht : ∀ (s : Shared) (H : Hp) (C : Addr) (cl : List (Str × Addr)) (fp : List Addr), ATs (X.blk s H scope (compEnvC scope cl C X.env) fp) Z W0 ifs ft)
    (he : ∀ (s : Shared) (H : Hp) (C : Addr) (cl : List (Str × Addr)) (fp : List Addr), AE (X.blk s H scope (compEnvC scope cl C X.env) fp) Z W0 elt fe)
    (hsw : swapsWith (.ListComp elt [⟨tg, iter, ifs, 0⟩] scope p) (some (.Name y pos')) pos.line X.env = pure true) (hy : X.N[i]? = some y := by rfl) (hyl : X.env.scope.names.lookup y = some .local := by rfl) (hs : ∀ x, foldedSetIterable iter X.env x = pure x := by intro _; rfl) :
    AS X Z W (.Assign [.Name y pos'] (.ListComp elt [⟨tg, iter, ifs, 0⟩] scope p) pos) (sSet i (fLc fi gt ft fe (own.map (·.2)))) := by
  obtain ⟨ti, pi, si⟩ := it.ex
  exact ⟨_, ps_setLc hc hND hy hyl hsw pi ok (fun s H C cl fp => (hg s H C cl fp).pg) (fun s H C cl fp => (ht s H C cl fp).pt) (fun s H C cl fp => (he s H C cl fp).pe) hs,
    fun B σ H G a Dn En r w k h => snd_lc hw si B σ H G a _ _ _ r w h fun d a' v H' G' h1 e1 r1 x1 => k.nx _ _ _ _ (r1.setIm x1) h1⟩
end
end Ab


namespace Ab
open PySem L2 PySem.Spec PyProof.Rows
/-! ### all(.. for x in xs) -/
/-- the element, at the i-th item: a bool, and nothing is changed -/
def EltQ (X : Cx) (h1 : Heap) (P : Addr) (scope : Scope) (x : Str) (elt : Expr) (Pf : Nat → Value → Prop) (pb : Nat → Bool) : Prop :=
  ∀ (cenv : Env) (A' : Around) (E' : Value → Shared → Prop) (i : Nat) (v : Value) (s₂ : Shared) (m₂ : Str → Option Value), cenv.scope = scope → cenv.globals = mainGlobals → cenv.builtins = builtinsNs → A'.handled = none →
    (∀ b o, X.base.get? b = some o → s₂.heap.get? b = some o) → (∀ b o, h1.get? b = some o → b ≠ P → s₂.heap.get? b = some o) → Pf i v → s₂.heap.Ns cenv.locals m₂ → m₂ x = some v →
    wpAny (model X.prog X.w) A' (eval elt cenv) (fun y s₃ => y = .bool (pb i) ∧ Keeps s₂ s₃) E' s₂
/-- what is walked by the generator: n items -/
def SrcQ (X : Cx) (pins : List (Addr × Obj)) (σ : L2.St) (P : Addr) (scope : Scope) (x : Str) (elt : Expr) (v : V) (H1 : Hp) (n : Nat) (pb : Nat → Bool) : Prop :=
  ∀ (s1 : Shared) (xv : Value) (Q : Value → Shared → Prop), Inv X pins σ H1 s1 → RelV v xv →
    (∀ (o : Obj) (St : Nat → Heap → Prop) (Pf : Nat → Value → Prop) (fp : List Addr), (∀ A' : Around, A'.handled = none → Walks X.prog X.w A' s1.heap.objs.size fp [s1.heap.objs.size] n Pf St) → St 0 (s1.heap.push o) →
      (∀ b ∈ fp, b = s1.heap.objs.size ∨ (b < s1.heap.objs.size ∧ b ≠ P)) → EltQ X s1.heap P scope x elt Pf pb → Q (.ref s1.heap.objs.size) { s1 with heap := s1.heap.push o }) →
    wpAny (model X.prog X.w) X.A (pyIter xv) Q X.xe s1
/-- the generator g, ready -/
def ReadyQ (X : Cx) (pins : List (Addr × Obj)) (σ : L2.St) (H1 : Hp) (P : Addr) (n : Nat) (pb : Nat → Bool) (g : Addr) (s5 : Shared) : Prop :=
  ∃ (fp wr : List Addr) (G : Array GenState → Array GenState → Prop) (F : Nat → Value → Prop) (St : Nat → Shared → Prop), WalksS X.prog X.w X.A.in1 g fp wr G n F St ∧ St 0 s5 ∧ TruthOf X.prog X.w X.A.in1 F pb ∧ ∀ s', Moved wr G s5 s' → ∃ H2, GxR.Tabbed P H1 H2 ∧ Inv X pins σ H2 s'
section
variable {X : Cx} {pins : List (Addr × Obj)} {σ : L2.St} {H : Hp} {s : Shared}
theorem gen_any {c P : Addr} {elt iter : Expr} {x : Str} {px gpos : Pos} {scope : Scope} {te : TE} {k : Nat} {Q' : Value → Shared → Prop} {R' : Nat → (Nat → Bool) → Hp → Prop} (hr : Room k X.A) (TB : GxR.TabB X.base X.mg c P) (hcode : X.env.code = .ref c) (S : GxR.GenS X.env scope x) (hi : PE X iter te)
    (hs : ∀ v, genFold iter X.env v = pure v) (I : Inv X pins σ H s) (h : te σ H fun v H1 => ∃ n pb, GxR.TabG H1 P ∧ (∀ pins, SrcQ X pins σ P scope x elt v H1 n pb) ∧ R' n pb H1) (hQ : ∀ n pb H1 g s5, R' n pb H1 → ReadyQ X pins σ H1 P n pb g s5 → Q' (.ref g) s5) :
    wpAny (model X.prog X.w) X.A (eval (.GeneratorExp elt [⟨.Name x px, iter, [], 0⟩] scope gpos) X.env) Q' X.xe s := by
  refine wpAny_GeneratorExp_walksQ hr.hd S.co (closure_ok S.free) S.cell S.dot S.loc S.kind (by have := hr.dp; omega) ?_ hs
  refine thn (hi.run pins s σ H _ I h) fun xv s1 ⟨v, H1, I1, r1, q1⟩ => ?_
  obtain ⟨n, pb, ⟨ps, hP, ht⟩, src, q1⟩ := q1
  refine src pins s1 xv _ I1 r1 fun o St Pf fp W hst hfp hel => ?_
  have hPs : s1.heap.get? P = some { cls := .none, data := .fields ps } := I1.hok P _ hP
  have hPlt : P < s1.heap.objs.size := Heap.lt_size hPs
  have hP2 : (s1.heap.push o).get? P = some { cls := .none, data := .fields ps } := Heap.get?_push_of_some _ hPs
  have cd : PySem.W.CodeHd (s1.heap.push o) c P := TB.code.keeps fun b u e => Heap.get?_push_of_some _ (I1.bk b u e)
  have lim2 : (s1.heap.push o).NoLimit := I1.nolimit.push o
  have bneP : ∀ b u, X.base.get? b = some u → b ≠ P := fun b u e z => by
    have := (I1.bs b u e).2
    rw [z, hP] at this; cases this
  have sz2 : (s1.heap.push o).objs.size = s1.heap.objs.size + 1 := Heap.size_push ..
  have cont : ∀ (code : Value) (h3 : Heap) (tk : Nat) (ps' : Array Value), Heap.ExtBut P (s1.heap.push o) h3 → (s1.heap.push o).objs.size ≤ h3.objs.size → h3.get? P = some { cls := .none, data := .fields ps' } → (∃ more, ps' = ps ++ more) → TriplesOk ps'.toList →
      wpAny (model X.prog X.w) X.A (builtinsFor X.env.globals X.env.builtins) (fun bi s₄ => ∃ Ia fp wr n₀ Pf St₀ pz F, Value.ref s1.heap.objs.size = .ref Ia ∧ (∀ A' : Around, A'.handled = none → Walks X.prog X.w A' Ia fp wr n₀ Pf St₀) ∧ St₀ 0 s₄.heap ∧ (∀ b ∈ fp, b < s₄.heap.objs.size) ∧ s₄.heap.NoLimit ∧ cStatics ∉ wr ∧
          (∀ href : Heap, (∀ b o, s₄.heap.get? b = some o → href.get? b = some o) → QuietGen X.prog X.w (genEnv scope (cloFrom X.env.cells scope.names []) s₄.heap.objs.size code bi X.env) x [] elt (List.range s₄.heap.objs.size) wr Pf pz F href) ∧
          (∀ a h₅ tk gs, gs.bare = true → s₄.heap.objs.size < a → h₅.objs.size = a + 1 → (∀ b o, s₄.heap.get? b = some o → h₅.get? b = some o) →
            WalksS X.prog X.w X.A.in4 a (a :: s₄.heap.objs.size :: List.range s₄.heap.objs.size) (s₄.heap.objs.size :: wr) (GenOnlyQ s₄.gens.size) (passing pz n₀ 0).length (fun j y => ∃ i, (passing pz n₀ 0)[j]? = some i ∧ F i y) (GenAt X.prog X.w X.A.in4 a s₄.gens.size s₄.heap.objs.size (List.range s₄.heap.objs.size) wr pz n₀ F) →
            GenAt X.prog X.w X.A.in4 a s₄.gens.size s₄.heap.objs.size (List.range s₄.heap.objs.size) wr pz n₀ F 0 { s₄ with gens := s₄.gens.push gs, toks := tk, heap := h₅ } → Q' (.ref a) { s₄ with gens := s₄.gens.push gs, toks := tk, heap := h₅ })) X.xe { s1 with heap := h3, toks := tk } := by
    intro code h3 tk ps' hx hsz hP3 hmore ht3
    obtain ⟨bm, ob, e1, e2, e3, e4, e5, e6, e7, e8⟩ := TB.bm
    have hcP : cStatics ≠ P := fun e => by
      obtain ⟨_, hns, _⟩ := I1.nolimit
      obtain ⟨o', es, ep, ho, hd, _⟩ := hns
      rw [e, hPs] at ho
      cases ho
      cases hd
    have hcl : cStatics < s1.heap.objs.size := let ⟨_, hns, _⟩ := I1.nolimit; hns.lt
    have h9s : s1.heap.objs.size < h3.objs.size := Nat.lt_of_lt_of_le (by rw [sz2]; exact Nat.lt_succ_self _) hsz
    have keep3 : ∀ b u, b ≠ P → s1.heap.get? b = some u → h3.get? b = some u := fun b u hb e => hx b u hb (Heap.get?_push_of_some _ e)
    refine wpAny_builtinsFor (m := X.mg) (by rw [I1.ok.glob]; exact ((I1.mod.glob.keeps I1.bk).push o).extBut hx TB.gP) e1 e2 (keep3 _ _ e4 (I1.bk _ _ e5)) e6 e7 e8 ?_
    refine ⟨s1.heap.objs.size, fp, [s1.heap.objs.size], n, Pf, St, (fun _ => true), (fun i y => y = .bool (pb i)), rfl, W, ?_, ?_, lim2.extBut hx hcP, ?_, ?_, ?_⟩
    · refine (W X.A hr.hd).frame _ _ _ hst fun b hb u e => hx b u ?_ e
      rcases hfp b hb with z | z
      · intro z2
        have : s1.heap.objs.size = P := by rw [← z, z2]
        rw [this] at hPlt; exact Nat.lt_irrefl _ hPlt
      · exact z.2
    · intro b hb
      show b < h3.objs.size
      rcases hfp b hb with z | z
      · rw [z]; exact h9s
      · have z1 : b < s1.heap.objs.size := z.1
        have h9 : (s1.heap.objs.size : Nat) ≤ h3.objs.size := by omega
        exact Nat.lt_of_lt_of_le z1 h9
    · intro z
      rcases List.mem_cons.mp z with z | z
      · exact Nat.ne_of_lt hcl z
      · cases z
    · intro href hhref
      refine ⟨fun A' E' i v s₂ m₂ hA hPv hn hm hk => ?_, fun A' E' i v s₂ m₂ hA hPv hp hn hm hk => ?_⟩
      · simp only [List.forIn_nil]
        exact wpAny_pure ⟨rfl, GxR.keeps_refl _⟩
      · have keep2 : ∀ b u, s1.heap.get? b = some u → b ≠ P → s₂.heap.get? b = some u := fun b u e hb => by
          have hl := Heap.lt_size e
          refine hk b (List.mem_range.mpr ?_) ?_ u (hhref b u (keep3 b u hb e))
          · have h9 : (s1.heap.objs.size : Nat) ≤ h3.objs.size := by omega
            exact Nat.lt_of_lt_of_le hl h9
          · intro z
            rcases List.mem_cons.mp z with z | z
            · rw [z] at hl; exact Nat.lt_irrefl _ hl
            · cases z
        exact wpAny_mono (hel _ A' E' i v s₂ m₂ rfl I1.ok.glob rfl hA (fun b u e => keep2 b u (I1.bk b u e) (bneP b u e)) keep2 hPv hn hm) (fun y s3 r => ⟨r.1, r.2⟩) fun _ _ e => e
    · intro g h5 tk5 gs hgb hag hsz5 hk5 W5 hat
      simp only [GxR.passing_true, List.length_range] at W5
      refine hQ n pb H1 g _ q1 ⟨_, _, _, _, _, W5.in4_1, hat, ?_, fun s' hm => ?_⟩
      · intro j y sj Qj Ej hy hQj
        obtain ⟨i, hij, rfl⟩ := hy
        obtain ⟨hj, ej⟩ := List.getElem?_eq_some_iff.mp hij
        rw [List.getElem_range] at ej
        subst ej
        exact wpAny_truthy_bool hQj
      · obtain ⟨more, em⟩ := hmore
        have nwr : ∀ b u, s1.heap.get? b = some u → b ∉ h3.objs.size :: [s1.heap.objs.size] := fun b u e hb => by
          have hl := Heap.lt_size e
          rcases List.mem_cons.mp hb with z | z
          · rw [z] at hl
            have h9 : (h3.objs.size : Nat) < s1.heap.objs.size := hl
            omega
          · rcases List.mem_cons.mp z with z | z
            · rw [z] at hl
              exact Nat.lt_irrefl _ hl
            · cases z
        have J := GxR.inv_tab (more := more) (h' := s'.heap) (g' := s'.gens) (d' := s'.drawn) (t' := s'.toks) I1 hP (fun b u hb e => hm.heap b u (nwr b u e) (hk5 b u (keep3 b u hb e))) (by rw [← em]; exact hm.heap P _ (nwr P _ hPs) (hk5 P _ hP3)) (AllBare.movedS (I1.bare.push hgb) hm)
        rw [GxR.sh_eta s1 s' hm.os] at J
        exact ⟨upd H1 P (.tbl (ps ++ more)), ⟨⟨ps ++ more, upd_same, by rw [← em]; exact ht3⟩, fun b hb => upd_ne hb⟩, J⟩
  refine ⟨lim2, ?_⟩
  cases hf : codeAmong gpos ps.toList with
  | none =>
    refine wpAny_genexprCodeX hcode (cd.code hP2 ht) (cd.tab hP2) hf fun c' h' tk hx hge hlt hco' _ htab' _ => ?_
    obtain ⟨o1, vs, f1, tf, fl, tg, inF, tx, tt, op, _, _, _, _, _, _, _, _, _, htr, _⟩ := hco'
    exact cont _ h' tk _ hx (Nat.le_trans hge (Nat.le_of_lt hlt)) htab'.2 ⟨_, rfl⟩ htr
  | some cv =>
    refine wpAny_genexprCode_hit hcode (cd.code hP2 ht) hf ?_
    exact cont cv (s1.heap.push o) s1.toks ps (Heap.ExtBut.refl _ _) (Nat.le_refl _) hP2 ⟨#[], by simp⟩ ht
/-- all(.. for x in e) -/
def tAllQ (X : Cx) (P : Addr) (scope : Scope) (x : Str) (elt : Expr) (te : TE) : TE := fun σ H Q => te σ H fun v H1 => ∃ n pb, GxR.TabG H1 P ∧ (∀ pins, SrcQ X pins σ P scope x elt v H1 n pb) ∧ ∀ H2, GxR.Tabbed P H1 H2 → Q (.bl ((List.range n).all pb)) H2
theorem pe_allQ {c P : Addr} {elt iter : Expr} {x : Str} {px p pos gpos : Pos} {scope : Scope} {te : TE} {k : Nat} (hr : Room k X.A) (hg : Gl X "all") (hm : X.mg "all" = none) (TB : GxR.TabB X.base X.mg c P) (hcode : X.env.code = .ref c) (S : GxR.GenS X.env scope x) (hi : PE X iter te)
    (hs : ∀ v, genFold iter X.env v = pure v) (he : starEach [.GeneratorExp elt [⟨.Name x px, iter, [], 0⟩] scope gpos] X.env = (false, eval (.GeneratorExp elt [⟨.Name x px, iter, [], 0⟩] scope gpos) X.env) :: starEach [] X.env) :
    PE X (.Call (.Name "all" p) [.GeneratorExp elt [⟨.Name x px, iter, [], 0⟩] scope gpos] [] pos) (tAllQ X P scope x elt te) := by
  refine ⟨fun pins s σ H Q I h => ?_⟩
  refine wpAny_Call_Name_kw (ld_blt I hg hm (u := .builtin "all") (by decide +kernel) ?_)
  refine PyProof.Rows.callWith_builtin1 ?_ he (by rfl)
  rw [he]
  show wpAny _ _ (spliced ((false, eval (.GeneratorExp elt [⟨.Name x px, iter, [], 0⟩] scope gpos) X.env) :: backTo pos (starEach [] X.env))) _ _ s
  refine Calls.spliced_cons (gen_any (R' := fun n pb H1 => ∀ H2, GxR.Tabbed P H1 H2 → Q (.bl ((List.range n).all pb)) H2) hr TB hcode S hi hs I h fun n pb H1 g s5 hR hG => ?_)
  obtain ⟨fp, wr, G, F, St, W, hst, htr, hI⟩ := hG
  refine Calls.spliced_nil ?_
  refine call_all_walkS (W.self 0 _ _ _ hst ⟨g, fp, wr, G, _, F, St, _, rfl, W, hst, htr, fun s' hmv => ?_⟩)
  obtain ⟨H2, hT, J⟩ := hI s' hmv
  exact ⟨.bl _, H2, J, rfl, hR H2 hT⟩
end
end Ab


namespace Ab
open PySem L2 PySem.Spec PyProof.Rows
section
variable {X : Cx} {pins : List (Addr × Obj)} {σ : L2.St} {H : Hp} {s : Shared} {A' : Around} {E' : Value → Shared → Prop} {cenv : Env} {s₂ : Shared} {scope : Scope} {m₂ : Str → Option Value} {x y : Str} {v u : Value} {pos p1 p2 p3 p4 p5 p6 : Pos} {Q : Value → Shared → Prop}
/-- names within the generator -/
theorem gx_loc (hk : scope.kind = .function) (hl : scope.names.lookup x = some .local) (hs : cenv.scope = scope) (hn : s₂.heap.Ns cenv.locals m₂) (hm : m₂ x = some v) (hd : (x == ("__debug__" : Str)) = false) (h : Q v s₂) : wpAny (model X.prog X.w) A' (eval (.Name x pos) cenv) Q E' s₂ :=
  wpAny_Name (wpAny_loadName_local (by rw [hs]; exact hk) (show cenv.scope.names.lookup x = some .local by rw [hs]; exact hl) hn hm h) hd
theorem gx_glob (md : Mod X.K X.mg X.base) (hk : scope.kind = .function) (hl : scope.names.lookup x = some .globalImplicit) (hs : cenv.scope = scope) (hg : cenv.globals = mainGlobals) (hb : ∀ b o, X.base.get? b = some o → s₂.heap.get? b = some o) (hm : X.mg x = some v) (hd : (x == ("__debug__" : Str)) = false) (h : Q v s₂) : wpAny (model X.prog X.w) A' (eval (.Name x pos) cenv) Q E' s₂ :=
  Calls.Name_function_global (by rw [hs]; exact hk) (show cenv.scope.names.lookup x = some .globalImplicit by rw [hs]; exact hl) (Calls.loadGlobal_global (by rw [hg]; exact md.glob.keeps hb) hm h) hd
theorem gx_blt (md : Mod X.K X.mg X.base) (hk : scope.kind = .function) (hl : scope.names.lookup x = some .globalImplicit) (hs : cenv.scope = scope) (hg : cenv.globals = mainGlobals) (hbi : cenv.builtins = builtinsNs) (hb : ∀ b o, X.base.get? b = some o → s₂.heap.get? b = some o) (hm : X.mg x = none) (hv : bootBuiltins x = some v) (hn : x ≠ "__name__") (hd : (x == ("__debug__" : Str)) = false) (h : Q v s₂) :
    wpAny (model X.prog X.w) A' (eval (.Name x pos) cenv) Q E' s₂ := by
  obtain ⟨mb, h1, h2⟩ := md.blt
  exact Calls.Name_function_global (by rw [hs]; exact hk) (show cenv.scope.names.lookup x = some .globalImplicit by rw [hs]; exact hl) (Calls.loadGlobal_builtin (by rw [hg]; exact md.glob.keeps hb) hm (by rw [hbi]; exact h1.keeps hb) ((h2 x hn).trans hv) h) hd
/-- isinstance(x, T), where it is so -/
theorem gx_isi {tn : Str} {T : String} {t : Value} {PH : Heap → Prop} (md : Mod X.K X.mg X.base) (hk : scope.kind = .function) (hx : scope.names.lookup x = some .local) (hi : scope.names.lookup ("isinstance" : Str) = some .globalImplicit) (ht : scope.names.lookup tn = some .globalImplicit) (hs : cenv.scope = scope) (hg : cenv.globals = mainGlobals) (hbi : cenv.builtins = builtinsNs)
    (hb : ∀ b o, X.base.get? b = some o → s₂.heap.get? b = some o) (hn : s₂.heap.Ns cenv.locals m₂) (hm : m₂ x = some v) (hmi : X.mg "isinstance" = none) (hmt : X.mg tn = none) (hvt : bootBuiltins tn = some (.type T)) (hnt : tn ≠ "__name__") (hdt : (tn == ("__debug__" : Str)) = false) (hdx : (x == ("__debug__" : Str)) = false)
    (KX : PySem.W.KitX X.K v t PH) (hP : PH s₂.heap) (hone : PySem.W.kitOne X.K t (.type T) = some true) (hnl : v ≠ .builtin "__main__.__loader__#opaque") (h : ∀ tk, Q (.bool true) { s₂ with toks := tk }) :
    wpAny (model X.prog X.w) A' (eval (.Call (.Name "isinstance" p1) [.Name x p2, .Name tn p3] [] p4) cenv) Q E' s₂ := by
  refine wpAny_Call_Name_kw (gx_blt md hk hi hs hg hbi hb hmi (v := .builtin "isinstance") (by decide +kernel) (by decide) (by decide) ?_)
  refine PyProof.Rows.callWith_builtin1 (args_cons (gx_loc hk hx hs hn hm hdx ?_) rfl) rfl rfl
  refine args_cons (gx_blt md hk ht hs hg hbi hb hmt hvt hnt hdt ?_) rfl
  refine args_nil ?_
  exact PySem.W.kia_one KX (md.kin.keeps hb) hP hone hnl h
end
/-! ### a text's signs, a tuple's items -/
section
variable {X : Cx} {σ : L2.St} {H H1 : Hp} {P : Addr} {scope : Scope} {x : Str} {elt : Expr}
theorem src_str {a : Str} {pb : Nat → Bool} (hp : ∃ ps, H1 P = some (.tbl ps)) (hel : ∀ pins s1, Inv X pins σ H1 s1 → EltQ X s1.heap P scope x elt (SignAt a) fun i => match a.cps[i]? with | some c => pb c | none => false) :
    ∀ pins, SrcQ X pins σ P scope x elt (.str a) H1 a.cps.size fun i => match a.cps[i]? with | some c => pb c | none => false := by
  intro pins s1 xv Q I r hQ
  obtain ⟨t, rfl⟩ := r
  refine wpAny_pyIter_str fun o St W hst => hQ o St (SignAt a) [s1.heap.objs.size] W hst (fun b hb => .inl (List.mem_singleton.mp hb)) (hel pins s1 I)
theorem src_tup {t : Addr} {xs : List V} {pb : Nat → Bool} (hp : ∃ ps, H1 P = some (.tbl ps)) (ht : H1 t = some (.tup xs)) (hel : ∀ pins s1 (its : List Value), Inv X pins σ H1 s1 → Vals xs its → EltQ X s1.heap P scope x elt (fun i v => its.toArray[i]? = some v) pb) :
    ∀ pins, SrcQ X pins σ P scope x elt (.ref t) H1 xs.length pb := by
  intro pins s1 xv Q I r hQ
  cases r
  obtain ⟨its, rv, p, hz⟩ := I.tuple (SqT.of ht)
  have hlt : t < s1.heap.objs.size := IsTup.lt p
  refine wpAny_pyIter_tuple (show s1.heap.IsTuple t its.toArray from p) ?_
  have hl : its.toArray.size = xs.length := by rw [List.size_toArray]; exact rv.length.symm
  refine hQ _ (fun i h => h.IsTupleIter s1.heap.objs.size t i ∧ h.IsTuple t its.toArray) (fun i v => its.toArray[i]? = some v) [s1.heap.objs.size, t] (fun A' hA => by rw [← hl]; exact Walks.tuple hA _ t (Nat.ne_of_lt hlt) its.toArray) ⟨⟨_, Heap.get?_push_size _ rfl, rfl, rfl⟩, IsTup.push p _⟩ (fun b hb => ?_) (hel pins s1 its I rv)
  rcases List.mem_cons.mp hb with z | z
  · exact .inl z
  · have z := List.mem_singleton.mp z
    obtain ⟨ps, hps⟩ := hp
    exact .inr (by rw [z]; exact ⟨hlt, ne_of ht hps (by intro z; cases z)⟩)
end
/-! ### the table has grown -/
section
variable {Z : Cl} {B : Base} {σ : L2.St} {H H2 G : Hp} {a : A} {P : Addr}
theorem Rel.tab (r : Rel Z B σ H G a) (hP : P ∈ Z.tabs) (h : GxR.Tabbed P H H2) : Rel Z B σ H2 G a := by
  obtain ⟨hT, hk⟩ := h
  obtain ⟨⟨ps0, t1, _⟩, t2, t3⟩ := r.tb P hP
  have nk : ∀ z o, H z = some o → (∀ q, o ≠ .tbl q) → H2 z = H z := fun z o hz hn => hk z fun e => by rw [e, t1] at hz; exact hn ps0 (Option.some.inj hz).symm
  have rs : RelS Z B H2 G a.S := by
    refine ⟨fun z o hz => ?_, r.g0, r.new, fun z hz => ?_, fun z o hz hm => ?_, ?_, fun z hz => ?_, r.qn, fun t ht => ?_⟩
    · have hne : z ≠ P := fun e => by rw [e, t2] at hz; cases hz
      rw [hk z hne]; exact r.gh z o hz
    · by_cases e : z = P
      · obtain ⟨ps, h1, _⟩ := hT
        rw [e, h1]; simp
      · rw [hk z e]; exact r.dom z hz
    · have hne : z ≠ P := fun e => hm (.inr (.inr (.inr (by rw [e]; exact hP))))
      rw [hk z hne]; exact r.keep z o hz hm
    · have st := r.st
      cases hS : a.S with
      | none => rw [hS] at st; exact st
      | some S =>
        rw [hS] at st
        obtain ⟨q, pd, s1, s2, s3⟩ := st
        have s4 := s2
        obtain ⟨dx, vb, vw, ws, k1, k2, k3, k4, _⟩ := s4
        exact ⟨q, pd, s1, s2.keep (Ex.refl _) (nk _ _ k1 (by intro q z; cases z)) (nk _ _ k2 (by intro q z; cases z)) k3 k4, s3⟩
    · obtain ⟨s1, s2⟩ := r.rn z hz
      have s4 := s1
      obtain ⟨i0, i1, i3, s, ns, k1, k2, _⟩ := s4
      exact ⟨s1.keep (Ex.refl _) (nk _ _ k1 (by intro q z; cases z)) k2, s2⟩
    · obtain ⟨h1, h2, h3⟩ := r.tb t ht
      by_cases e : t = P
      · rw [e] at h2 h3 ⊢; exact ⟨hT, h2, h3⟩
      · obtain ⟨ps, k1, k2⟩ := h1
        exact ⟨⟨ps, by rw [hk t e]; exact k1, k2⟩, h2, h3⟩
  have pq : ∀ q z, B.q = some q → PdOf H2 q z → PdOf H q z := fun q z hq k => by
    obtain ⟨C, dx, fs, k1, k2⟩ := k
    have hne : q ≠ P := fun e => by
      obtain ⟨ps, h1, _⟩ := hT
      rw [e, h1] at k1; cases k1
    rw [hk q hne] at k1
    exact ⟨C, dx, fs, k1, k2⟩
  refine ⟨rs, r.len, fun j y hj => ?_, r.dis, r.gk⟩
  obtain ⟨u, u1, u2⟩ := r.sl j y hj
  refine ⟨u, u1, ?_⟩
  cases y with
  | im d => exact u2
  | owl ds =>
    obtain ⟨p', vs', rfl, w1, w2, w3, w4⟩ := u2
    exact ⟨p', vs', rfl, by rw [nk _ _ w1 (by intro q z; cases z)]; exact w1, w2, w3, w4⟩
  | owd ks =>
    obtain ⟨p', vs', rfl, w1, w2, w3, w4, w5⟩ := u2
    exact ⟨p', vs', rfl, by rw [nk _ _ w1 (by intro q z; cases z)]; exact w1, w2, w3, w4, fun q hq k => w5 q hq (pq q _ hq k)⟩
  | stk => exact u2
  | rng => exact u2
  | kept ws ks => exact kept_mono u2 (Ex.refl _) rfl rfl
end
end Ab


namespace Ab
open PySem L2 PySem.Spec PyProof.Rows
/-! ### all(.. for x in ..), as values -/
/-- the generator's scope -/
def gsc (scope : Scope) (x : Str) : Bool := scope.kind == .function && !scope.isCoroutine && scope.names.all (fun y => y.2 != .cell && y.2 != .free) && scope.names.lookup (".0" : Str) == some .local && scope.names.lookup x == some .local
theorem gsc.gen {scope : Scope} {x : Str} (h : gsc scope x = true) (env : Env) : GxR.GenS env scope x := by
  unfold gsc at h
  simp only [Bool.and_eq_true, beq_iff_eq, Bool.not_eq_true', List.all_eq_true, bne_iff_ne, ne_eq] at h
  obtain ⟨⟨⟨⟨h1, h2⟩, h3⟩, h4⟩, h5⟩ := h
  exact ⟨h1, h2, fun y hy => (h3 y hy).1, h4, h5, fun y hy hf => ((h3 y hy).2 hf).elim⟩
section
variable {X : Cx} {Z : Cl} {W : WX} {iter : Expr} {f : FE} {c P : Addr} {x : Str} {px p pos gpos p1 p2 p3 p4 p5 p6 p7 p8 p9 p10 : Pos} {scope : Scope} {k j : Nat}
theorem all_true (n : Nat) : (List.range n).all (fun _ => true) = true := by simp
/-- all are tuples of three -/
def fAll3 (f : FE) : FE := fun E a Q => f E a fun d a1 => match d with
  | .tup ds => (∀ d ∈ ds, ∃ x y z, d = .tup [x, y, z]) ∧ Q (.bl true) a1
  | _ => False
theorem Inv.md {pins : List (Addr × Obj)} {σ : L2.St} {H : Hp} {s : Shared} (I : Inv X pins σ H s) : Mod X.K X.mg X.base := I.mod
theorem vals_at {vs : List V} {its : List Value} {i : Nat} {v : Value} (h : Vals vs its) (e : its.toArray[i]? = some v) : ∃ u, vs[i]? = some u ∧ RelV u v := by
  rw [List.getElem?_toArray] at e
  induction h generalizing i with
  | nil => cases e
  | cons h1 h2 ih => cases i with
    | zero => cases e; exact ⟨_, rfl, h1⟩
    | succ i => exact ih e
theorem Rs.at {G : Hp} : ∀ {ds : List D} {vs : List V} {i : Nat} {v : V}, Rs G ds vs → vs[i]? = some v → ∃ d, d ∈ ds ∧ R G d v
  | [], vs, _, _, r, h => by
    rw [show vs = [] from r] at h; cases h
  | d :: ds, vs, i, v, r, h => by
    obtain ⟨u, w, rfl, r1, r2⟩ := r
    cases i with
    | zero => cases h; exact ⟨d, List.mem_cons_self, r1⟩
    | succ i =>
      obtain ⟨e, e1, e2⟩ := Rs.at r2 (i := i) h
      exact ⟨e, List.mem_cons_of_mem _ e1, e2⟩
theorem aall3 (hr : Room k X.A) (TB : GxR.TabB X.base X.mg c P) (hP : P ∈ Z.tabs) (hcode : X.env.code = .ref c) (ma : X.mg "all" = none) (mi : X.mg "isinstance" = none) (mt : X.mg "tuple" = none) (ml : X.mg "len" = none) (hg : Gl X "all") (S : gsc scope x = true) (li : scope.names.lookup ("isinstance" : Str) = some .globalImplicit) (lt : scope.names.lookup ("tuple" : Str) = some .globalImplicit) (ll : scope.names.lookup ("len" : Str) = some .globalImplicit)
    (hdx : (x == ("__debug__" : Str)) = false) (a : AE X Z W iter f) (hs : ∀ v, genFold iter X.env v = pure v) (he : starEach [.GeneratorExp (.BoolOp .And [.Call (.Name "isinstance" p1) [.Name x p2, .Name "tuple" p3] [] p4, .Compare (.Call (.Name "len" p5) [.Name x p6] [] p7) [.Eq] [.Constant (.int 3) j p8] p9] p10) [⟨.Name x px, iter, [], 0⟩] scope gpos] X.env = (false, eval (.GeneratorExp (.BoolOp .And [.Call (.Name "isinstance" p1) [.Name x p2, .Name "tuple" p3] [] p4, .Compare (.Call (.Name "len" p5) [.Name x p6] [] p7) [.Eq] [.Constant (.int 3) j p8] p9] p10) [⟨.Name x px, iter, [], 0⟩] scope gpos) X.env) :: starEach [] X.env) :
    AE X Z W (.Call (.Name "all" p) [.GeneratorExp (.BoolOp .And [.Call (.Name "isinstance" p1) [.Name x p2, .Name "tuple" p3] [] p4, .Compare (.Call (.Name "len" p5) [.Name x p6] [] p7) [.Eq] [.Constant (.int 3) j p8] p9] p10) [⟨.Name x px, iter, [], 0⟩] scope gpos] [] pos) (fAll3 f) := by
  obtain ⟨ta, pa, sa⟩ := a.ex
  have S1 := gsc.gen S X.env
  refine ⟨_, pe_allQ hr hg ma TB hcode S1 pa hs he, fun B σ H G a P' Q E rl w h kk => ?_⟩
  refine sa B σ H G a _ _ E rl w h fun d a1 v H1 G1 h1 e1 r1 x1 => ?_
  cases d with
  | tup ds =>
    obtain ⟨q, vs, rfl, g1, g2⟩ := x1
    have hT := (r1.tb P hP).1
    refine ⟨vs.length, fun _ => true, hT, src_tup (let ⟨ps, e, _⟩ := hT; ⟨ps, e⟩) (r1.gh _ _ g1) fun pins s1 its I1 rv => ?_, fun H2 hH => ?_⟩
    · intro cenv A' E' i v s₂ m₂ es eg eb _ kb k1 hv hn hm
      obtain ⟨u, hu, ru⟩ := vals_at rv hv
      obtain ⟨d, hd, rd⟩ := g2.at hu
      obtain ⟨y1, y2, y3, rfl⟩ := h1.1 d hd
      obtain ⟨t, us, rfl, gt, ut⟩ := rd
      cases ru
      obtain ⟨jts, rj, pj, hj⟩ := I1.tuple (SqT.of (r1.gh _ _ gt))
      have l3 : jts.toArray.size = 3 := by rw [List.size_toArray, ← rj.length, ← ut.len]; rfl
      obtain ⟨ps, hPs, _⟩ := hT
      have hPo : s1.heap.get? P = some { cls := .none, data := .fields ps } := I1.hok P _ hPs
      obtain ⟨o, o1, o2, n, o3⟩ := pj
      have hne : t ≠ P := fun e => by rw [e, hPo] at o1; cases o1; cases o2
      have o4 := k1 t o o1 hne
      refine BoolOp_and ?_
      refine gx_isi I1.mod S1.kind S1.loc li lt es eg eb kb hn hm mi mt (T := "tuple") (by decide +kernel) (by decide) (by decide) hdx PySem.W.kitx_tuple ⟨o, o4, o2⟩ (by rfl) (by intro z; cases z) fun tk => ?_
      refine wpAny_truthy_bool ?_
      rw [if_pos rfl]
      refine BoolOp_one ?_
      refine wpAny_Compare1 ?_
      refine wpAny_Call_Name_kw (gx_blt I1.mod S1.kind ll es eg eb kb ml (v := .builtin "len") (by decide +kernel) (by decide) (by decide) ?_)
      refine PyProof.Rows.callWith_builtin1 (args_cons (gx_loc S1.kind S1.loc es hn hm hdx ?_) rfl) rfl rfl
      refine args_nil ?_
      refine len_tuple ⟨o, o4, o2, n, o3⟩ (by rw [l3]; decide) ?_
      refine wpAny_Constant_int ?_
      refine PyProof.Rows.eq_int ?_
      refine ⟨by rw [l3]; rfl, _, _, rfl, fun _ _ e => e⟩
    · rw [all_true]
      exact kk _ _ _ _ _ h1.2 e1 (r1.tab hP hH) rfl
  | _ => exact h1.elim
/-- all are texts -/
def fAllS (f : FE) : FE := fun E a Q => f E a fun d a1 => match d with
  | .tup ds => (∀ d ∈ ds, ∃ s, d = .str s) ∧ Q (.bl true) a1
  | _ => False
theorem aallS (hr : Room k X.A) (TB : GxR.TabB X.base X.mg c P) (hP : P ∈ Z.tabs) (hcode : X.env.code = .ref c) (ma : X.mg "all" = none) (mi : X.mg "isinstance" = none) (mt : X.mg "str" = none) (hg : Gl X "all") (S : gsc scope x = true) (li : scope.names.lookup ("isinstance" : Str) = some .globalImplicit) (lt : scope.names.lookup ("str" : Str) = some .globalImplicit)
    (hdx : (x == ("__debug__" : Str)) = false) (a : AE X Z W iter f) (hs : ∀ v, genFold iter X.env v = pure v) (he : starEach [.GeneratorExp (.Call (.Name "isinstance" p1) [.Name x p2, .Name "str" p3] [] p4) [⟨.Name x px, iter, [], 0⟩] scope gpos] X.env = (false, eval (.GeneratorExp (.Call (.Name "isinstance" p1) [.Name x p2, .Name "str" p3] [] p4) [⟨.Name x px, iter, [], 0⟩] scope gpos) X.env) :: starEach [] X.env) :
    AE X Z W (.Call (.Name "all" p) [.GeneratorExp (.Call (.Name "isinstance" p1) [.Name x p2, .Name "str" p3] [] p4) [⟨.Name x px, iter, [], 0⟩] scope gpos] [] pos) (fAllS f) := by
  obtain ⟨ta, pa, sa⟩ := a.ex
  have S1 := gsc.gen S X.env
  refine ⟨_, pe_allQ hr hg ma TB hcode S1 pa hs he, fun B σ H G a P' Q E rl w h kk => ?_⟩
  refine sa B σ H G a _ _ E rl w h fun d a1 v H1 G1 h1 e1 r1 x1 => ?_
  cases d with
  | tup ds =>
    obtain ⟨q, vs, rfl, g1, g2⟩ := x1
    have hT := (r1.tb P hP).1
    refine ⟨vs.length, fun _ => true, hT, src_tup (let ⟨ps, e, _⟩ := hT; ⟨ps, e⟩) (r1.gh _ _ g1) fun pins s1 its I1 rv => ?_, fun H2 hH => ?_⟩
    · intro cenv A' E' i v s₂ m₂ es eg eb _ kb k1 hv hn hm
      obtain ⟨u, hu, ru⟩ := vals_at rv hv
      obtain ⟨d, hd, rd⟩ := g2.at hu
      obtain ⟨y, rfl⟩ := h1.1 d hd
      cases rd
      obtain ⟨t, rfl⟩ := ru
      exact gx_isi I1.mod S1.kind S1.loc li lt es eg eb kb hn hm mi mt (T := "str") (by decide +kernel) (by decide) (by decide) hdx PySem.W.kitx_str trivial (by rfl) (by intro z; cases z) fun tk => ⟨rfl, GxR.keeps_tok _ _⟩
    · rw [all_true]
      exact kk _ _ _ _ _ h1.2 e1 (r1.tab hP hH) rfl
  | _ => exact h1.elim
/-- all signs lie in u + v + w -/
def fAllC (u v w : Str) (f : FE) : FE := fun E a Q => f E a fun d a1 => match d with
  | .str s => Q (.bl (s.cps.toList.all fun c => decide (c ∈ (u ++ v ++ w).cps.toList))) a1
  | _ => False
theorem range_all {l : Array Nat} (q : Nat → Bool) : (List.range l.size).all (fun i => match l[i]? with | some c => q c | none => false) = l.toList.all q := by
  rw [Bool.eq_iff_iff, List.all_eq_true, List.all_eq_true]
  constructor
  · intro h c hc
    obtain ⟨i, hi, e⟩ := List.getElem_of_mem hc
    have hi' : i < l.size := by simpa using hi
    have := h i (List.mem_range.mpr hi')
    rw [Array.getElem?_eq_getElem hi'] at this
    have e' : l[i] = c := by rw [← e]; simp
    rw [← e']; exact this
  · intro h i hi
    have hi' : i < l.size := List.mem_range.mp hi
    rw [Array.getElem?_eq_getElem hi']
    exact h _ (by simp)
theorem aallC {nS nD dot sS sD : Str} {tS tD : Tok} (hr : Room k X.A) (TB : GxR.TabB X.base X.mg c P) (hP : P ∈ Z.tabs) (hcode : X.env.code = .ref c) (ma : X.mg "all" = none) (hg : Gl X "all") (S : gsc scope x = true) (lS : scope.names.lookup nS = some .globalImplicit) (lD : scope.names.lookup nD = some .globalImplicit) (mS : X.mg nS = some (.str sS tS)) (mD : X.mg nD = some (.str sD tD))
    (hz : sS.length + sD.length + dot.length ≤ 1000) (hz1 : (sS.length == 0) = false) (hz2 : (sD.length == 0) = false)
    (hdx : (x == ("__debug__" : Str)) = false) (hdS : (nS == ("__debug__" : Str)) = false) (hdD : (nD == ("__debug__" : Str)) = false) (a : AE X Z W iter f) (hs : ∀ v, genFold iter X.env v = pure v) (he : starEach [.GeneratorExp (.Compare (.Name x p1) [.In] [.BinOp (.BinOp (.Name nS p2) .Add (.Name nD p3) p4) .Add (.Constant (.str dot) j p5) p6] p7) [⟨.Name x px, iter, [], 0⟩] scope gpos] X.env = (false, eval (.GeneratorExp (.Compare (.Name x p1) [.In] [.BinOp (.BinOp (.Name nS p2) .Add (.Name nD p3) p4) .Add (.Constant (.str dot) j p5) p6] p7) [⟨.Name x px, iter, [], 0⟩] scope gpos) X.env) :: starEach [] X.env) :
    AE X Z W (.Call (.Name "all" p) [.GeneratorExp (.Compare (.Name x p1) [.In] [.BinOp (.BinOp (.Name nS p2) .Add (.Name nD p3) p4) .Add (.Constant (.str dot) j p5) p6] p7) [⟨.Name x px, iter, [], 0⟩] scope gpos] [] pos) (fAllC sS sD dot f) := by
  obtain ⟨ta, pa, sa⟩ := a.ex
  have S1 := gsc.gen S X.env
  refine ⟨_, pe_allQ hr hg ma TB hcode S1 pa hs he, fun B σ H G a P' Q E rl w h kk => ?_⟩
  refine sa B σ H G a _ _ E rl w h fun d a1 v H1 G1 h1 e1 r1 x1 => ?_
  cases d with
  | str s =>
    cases x1
    have hT := (r1.tb P hP).1
    refine ⟨_, _, hT, src_str (pb := fun c => decide (c ∈ (sS ++ sD ++ dot).cps.toList)) (let ⟨ps, e, _⟩ := hT; ⟨ps, e⟩) fun pins s1 I1 => ?_, fun H2 hH => ?_⟩
    · intro cenv A' E' i v s₂ m₂ es eg eb _ kb k1 hv hn hm
      obtain ⟨c', t', hc, rfl⟩ := hv
      refine wpAny_Compare1 (hm := by rfl) ?_
      refine gx_loc S1.kind S1.loc es hn hm hdx ?_
      refine wpAny_BinOp ?_
      refine wpAny_BinOp ?_
      refine gx_glob I1.mod S1.kind lS es eg kb mS hdS ?_
      refine gx_glob I1.mod S1.kind lD es eg kb mD hdD ?_
      refine PyProof.Rows.add_str (fun t1 tk1 => ?_) (by rw [sizeLine_eq]; omega)
      refine Calls.Constant_str ?_
      refine PyProof.Rows.add_str (fun t2 tk2 => ?_) (by rw [Str.length_append, sizeLine_eq]; omega)
      refine PyProof.Rows.in_str ?_
      refine ⟨?_, GxR.keeps_tok _ _⟩
      rw [StrLaws.found_one]
      show _ = Value.bool (match s.cps[i]? with | some c => decide (c ∈ (sS ++ sD ++ dot).cps.toList) | none => false)
      rw [hc]
    · refine (congrArg (fun b => Q (.bl b) H2) (range_all (l := s.cps) fun c => decide (c ∈ (sS ++ sD ++ dot).cps.toList))).mpr ?_
      exact kk _ _ _ _ _ h1 e1 (r1.tab hP hH) rfl
  | _ => exact h1.elim
end
end Ab


namespace Ab
open PySem L2 PySem.Spec PyProof.Rows
/-- a def whose code object is known -/
structure FunC (K : PySem.W.Frag) (x qual : Str) (st : Stmt) (f : Addr) (fd : FuncData) (c : Addr) : Prop where
  ex : ∃ (oc : Value) (od : Option Addr) (kV doc pm : Value) (an : Option Addr) (ct : Value) (osl : Array (Option Value)),
    fd = PySem.W.fnOf x qual (defArgs st) (defBody st) (defScope st) .none kV doc pm an (.ref c) ct ∧ K.lookup f = some ⟨oc, od, .func fd, osl⟩ ∧ PySem.W.codeIn K (.ref c) qual = true
  kp : PySem.W.keepIn K (.ref f) = true
section
variable {P : Program} {w : World} {K : PySem.W.Frag} {mg : Str → Option Value} {base : Heap} {Z : Cl}
theorem aokC {x qual : Str} {st : Stmt} {f c : Addr} {fd : FuncData} {N ps : List Str} {k n : Nat} {F : FD} (Fn : FunC K x qual st f fd c) (Sc : FnScope N ps (defScope st)) (hn : ps.length = n)
    (hbody : ∀ (A : Around) (outer : List Env) (s : Shared) (H : Hp) (E : XK), Room k (A.deeper (PyProof.Rows.envOfC qual (defScope st) s.heap.objs.size f (.ref c))) →
      ∃ r, ASs (cxOf (L2.CX P w) P w K mg base N qual (defScope st) f (.ref c) A outer s H E) Z (fun c d _ H => E c d H) (defBody st) r ∧ ∀ EA xs S Q, F EA xs S Q → xs.length = n → r (endA EA Q) ⟨startA N.length xs, S⟩) :
    FnOk P w K mg base (L2.CX P w) (k + 1) f fd ps (spA Z n F) := by
  obtain ⟨oc, od, kV, doc, pm, an, ct, osl, rfl, lk, hcd⟩ := Fn.ex
  refine fn_of lk hcd Sc (spA_len hn) fun A outer s H vs Q E hr h => ?_
  obtain ⟨B, xs, S, P', EA, h1, h2, h3, h4, h5, h6, h7, h8, h9⟩ := h
  obtain ⟨r, hr1, hr2⟩ := hbody A outer s H E hr
  obtain ⟨t, p, sd⟩ := hr1.ex
  refine ⟨t, p, sd B _ H B.G0 ⟨startA N.length xs, S⟩ _ (endA EA P') (Rel.begin h5 h4 h6) (fun err σ H G S c d rl he hc => h9 err S H G c d he rl hc) ⟨fun σ H G a rl hq => h8 _ _ _ _ _ hq rl.toRelS rfl, fun d v σ H G a rl hv hq => h8 _ _ _ _ _ hq rl.toRelS hv, fun _ _ _ _ _ z => z.elim, fun _ _ _ _ _ z => z.elim⟩ (hr2 EA xs S P' h7 h1)⟩
end
def smallS : Str := "abcdefghijklmnopqrstuvwxyz"
def digitS : Str := "0123456789"
structure Consts (mg : Str → Option Value) (tS tD : Tok) : Prop where
  SMALL : mg "SMALL" = some (.str smallS tS)
  DIGITS : mg "DIGITS" = some (.str digitS tD)
end Ab


namespace Ab
open PySem L2
def valid : Int → List Hk → Bool
  | _, [] => true
  | e, h :: r => decide (e < h.s) && !decide (h.g = h.c) && valid (h.s + h.g.length) r
def fIsPatch : FD := fun _ xs S P => ∃ p, xs = [.im (paD p)] ∧ Fine p ∧ gsum p + csum p < sizeLine ∧ P (.bl (valid (-1) p)) S
def isWord (s : Str) : Bool := decide (1 ≤ s.length) && decide (s.length ≤ 24) && (match s.cps[0]? with | some c => decide (c ∈ (smallS ++ digitS).cps.toList) | none => false) && s.cps.toList.all fun c => decide (c ∈ (smallS ++ digitS ++ ".-").cps.toList)
def fIsWord : FD := fun _ xs S P => ∃ s, xs = [.im (.str s)] ∧ s.length ≤ 1000 ∧ P (.bl (isWord s)) S
theorem rd_orF {s t : FT} {E : XA} {a a1 : Ab.A} {P : Bool → Ab.A → Prop} (hs : ∀ Q : Bool → Ab.A → Prop, Q false a1 → s E a Q) (h : t E a1 P) : fOr s t E a P := hs _ (by rw [if_neg Bool.false_ne_true]; exact h)
theorem rd_orN {s t : FT} {E : XA} {a a1 : Ab.A} {P : Bool → Ab.A → Prop} {b : Bool} (hs : ∀ Q : Bool → Ab.A → Prop, Q b a1 → s E a Q) (h0 : b = false → P true a1) (h1 : b = true → t E a1 P) : fOr (fNot s) t E a P := hs _ (by
  cases b with
  | true => show (if (!true) = true then _ else _); rw [if_neg (by decide)]; exact h1 rfl
  | false => show (if (!false) = true then _ else _); rw [if_pos (by decide)]; exact h0 rfl)
theorem rd_chain {g : FE} {E : XA} {a a2 : Ab.A} {P : Bool → Ab.A → Prop} {i k n : Int} (hg : ∀ Q : D → Ab.A → Prop, Q (.int n) a2 → g E a Q) (h : P (decide (i ≤ n) && decide (n ≤ k)) a2) : tB (fChain FLe FLe (fC (.int i)) g (fC (.int k))) E a P := hg _ (by
  by_cases h1 : i ≤ n
  · rw [decide_eq_true h1, Bool.true_and] at h
    show (match D.bl (decide (i ≤ n)) with | .bl true => _ | .bl false => _ | _ => False)
    rw [decide_eq_true h1]
    exact h
  · rw [decide_eq_false h1, Bool.false_and] at h
    show (match D.bl (decide (i ≤ n)) with | .bl true => _ | .bl false => _ | _ => False)
    rw [decide_eq_false h1]
    exact h)
theorem gc_le {k : Hk} : ∀ {p : List Hk}, k ∈ p → k.g.length + k.c.length ≤ gsum p + csum p
  | h :: r, hk => by
    have e1 : gsum (h :: r) = h.g.length + gsum r := by simp [gsum]
    have e2 : csum (h :: r) = h.c.length + csum r := by simp [csum]
    rcases List.mem_cons.mp hk with z | z
    · subst z; omega
    · have := gc_le z; omega
section
variable {P : Program} {w : World} {K : PySem.W.Frag} {mg : Str → Option Value} {base : Heap} {Z : Cl}
abbrev s_is_word : Stmt := top 22
abbrev n_is_word : List Str := ["value"]
theorem sc_is_word : FnScope n_is_word ["value"] (defScope s_is_word) := ⟨rfl, rfl, rfl, by decide +kernel, rfl, by decide +kernel, by decide +kernel⟩
theorem ok_is_word {f c Pt : Addr} {fd : FuncData} (Fn : FunC K "is_word" "is_word" s_is_word f fd c) (TB : GxR.TabB base mg c Pt) (hP : Pt ∈ Z.tabs) (Tb : Blt mg) {tS tD : Tok} (Tg : Consts mg tS tD) : FnOk P w K mg base (L2.CX P w) 1 f fd ["value"] (spA Z 1 fIsWord) := by
  refine aokC Fn sc_is_word rfl fun A outer s H E hr => ?_
  refine ⟨_, (ss_cons (s_if (wor (tnot (tval (aisi .str (av 0) Tb.isinstance Tb.str (by rfl) (by rfl) (by decide +kernel)))) (wor (tnot (tchain ao_le ao_le ai (alen (av 0) Tb.len (by rfl)) ai)) (wor1 (tcmp ao_ni (aix (av 0) ai) (ao ao_add (ag Tg.SMALL (by rfl)) (ag Tg.DIGITS (by rfl))) (by rfl))))).at
      (ss_one (s_ret ab))
      ss_nil)
    (ss_one (s_ret (aallC hr TB hP rfl Tb.all (by rfl) (by decide +kernel) (by decide +kernel) (by decide +kernel) Tg.SMALL Tg.DIGITS (by decide +kernel) (by decide +kernel) (by decide +kernel) (by decide) (by decide) (by decide) (av 0) (fun _ => rfl) rfl)))), fun EA xs S Q h hn => ?_⟩
  obtain ⟨s, rfl, hs, h⟩ := h
  have z : s.length ≤ sizeLine := by rw [sizeLine_eq]; omega
  unfold sSeq sIf
  refine rd_orF (a1 := ⟨[some (.im (.str s))], S⟩) (fun Q hQ => hQ) ?_
  refine rd_orN (a1 := ⟨[some (.im (.str s))], S⟩) (fun Q hQ => rd_chain (n := s.length) (fun Q hQ => ⟨z, hQ⟩) hQ) (fun h1 => ?_) (fun h1 => ?_)
  · show Q (.bl false) S
    have : isWord s = false := by
      unfold isWord
      have h2 : (decide (1 ≤ s.length) && decide (s.length ≤ 24)) = false := by
        rw [← h1]
        congr 1 <;> exact decide_eq_decide.mpr (by omega)
      rw [h2]
      rfl
    rw [← this]; exact h
  · have h2 : (decide (1 ≤ s.length) && decide (s.length ≤ 24)) = true := by
      rw [← h1]
      congr 1 <;> exact decide_eq_decide.mpr (by omega)
    have h3 : 1 ≤ s.length ∧ s.length ≤ 24 := by simpa using h2
    have h4 : 0 < s.cps.size := h3.1
    have e0 : s.cps[0]? = some s.cps[0] := Array.getElem?_eq_getElem h4
    refine ⟨z, s.cps[0], ?_, sz3 (by decide +kernel), ?_⟩
    · show atI s.cps.toList 0 = _
      unfold atI ixN
      rw [if_pos (Int.le_refl 0), if_pos (by rw [Array.length_toList]; omega)]
      show s.cps.toList[0]? = _
      rw [Array.getElem?_toList, e0]
    · refine ite2 (fun h5 => ?_) (fun h5 => ?_)
      · have h5 : ¬ s.cps[0] ∈ (smallS ++ digitS).cps.toList := by simpa using h5
        show Q (.bl false) S
        have : isWord s = false := by
          unfold isWord
          rw [h2, e0]
          simp only [Bool.true_and]
          rw [decide_eq_false h5]
          rfl
        rw [← this]; exact h
      · have h5 : s.cps[0] ∈ (smallS ++ digitS).cps.toList := by simpa using h5
        show Q (.bl _) S
        have : isWord s = s.cps.toList.all fun c => decide (c ∈ (smallS ++ digitS ++ ".-").cps.toList) := by
          unfold isWord
          rw [h2, e0]
          simp only [Bool.true_and]
          rw [decide_eq_true h5, Bool.true_and]
        rw [← this]; exact h
abbrev s_is_patch : Stmt := top 7
abbrev n_is_patch : List Str := ["value", "end", "start", "gone", "come"]
theorem sc_is_patch : FnScope n_is_patch ["value"] (defScope s_is_patch) := ⟨rfl, rfl, rfl, by decide +kernel, rfl, by decide +kernel, by decide +kernel⟩
theorem ok_is_patch {f c Pt : Addr} {fd : FuncData} (Fn : FunC K "is_patch" "is_patch" s_is_patch f fd c) (TB : GxR.TabB base mg c Pt) (hP : Pt ∈ Z.tabs) (Tb : Blt mg) : FnOk P w K mg base (L2.CX P w) 1 f fd ["value"] (spA Z 1 fIsPatch) := by
  refine aokC Fn sc_is_patch rfl fun A outer s H E hr => ?_
  have hp := passes_of (X := cxOf (L2.CX P w) P w K mg base n_is_patch "is_patch" (defScope s_is_patch) f (.ref c) A outer s H E) rfl
  have hu := hu64 hr
  refine ⟨_, (ss_cons (s_if (wor (tnot (tval (aisi .tuple (av 0) Tb.isinstance Tb.tuple (by rfl) (by rfl) (by decide +kernel)))) (wor1 (tnot (tval (aall3 hr TB hP rfl Tb.all Tb.isinstance Tb.tuple Tb.len (by rfl) (by decide +kernel) (by decide +kernel) (by decide +kernel) (by decide +kernel) (by decide) (av 0) (fun _ => rfl) rfl))))).at
      (ss_one (s_ret ab))
      ss_nil)
    (ss_cons (s_set 1 (aneg ai) sc_is_patch.nd)
    (ss_cons (s_for hp rfl (i_t (av 0)) (g_tp rfl (gs_cons (g_nm 2 sc_is_patch.nd) (gs_cons (g_nm 3 sc_is_patch.nd) (gs_cons (g_nm 4 sc_is_patch.nd) gs_nil))) (gl1 (gl1 (gl1 gl0))))
      (ss_cons (s_if (wor (tnot (tval (aisi .int (av 2) Tb.isinstance Tb.int (by rfl) (by rfl) (by decide +kernel)))) (wor (tval (aisi .bool (av 2) Tb.isinstance Tb.bool (by rfl) (by rfl) (by decide +kernel))) (wor1 (tcmp ao_le (av 2) (av 1) (nomark _))))).at
        (ss_one (s_ret ab))
        ss_nil)
      (ss_cons (s_if (wor (tnot (tval (aisi .tuple (av 3) Tb.isinstance Tb.tuple (by rfl) (by rfl) (by decide +kernel)))) (wor (tnot (tval (aisi .tuple (av 4) Tb.isinstance Tb.tuple (by rfl) (by rfl) (by decide +kernel)))) (wor1 (tcmp (ao_eq hu) (av 3) (av 4) (nomark _))))).at
        (ss_one (s_ret ab))
        ss_nil)
      (ss_cons (s_if (tnot (tval (aallS hr TB hP rfl Tb.all Tb.isinstance Tb.str (by rfl) (by decide +kernel) (by decide +kernel) (by decide +kernel) (by decide) (ao ao_add (av 3) (av 4)) (fun _ => rfl) rfl)))
        (ss_one (s_ret ab))
        ss_nil)
      (ss_one (s_set 1 (ao ao_add (av 2) (alen (av 3) Tb.len (by rfl))) sc_is_patch.nd))))))
    (ss_one (s_ret ab))))), fun EA xs S Q h hn => ?_⟩
  obtain ⟨p, rfl, fp, hz, h⟩ := h
  refine ⟨fun d hd => ?_, ?_⟩
  · obtain ⟨k, _, rfl⟩ := List.mem_map.mp hd
    exact ⟨_, _, _, rfl⟩
  refine forA_inv hkD (fun r a => ∃ (e : Int) (r2 r3 r4 : Option AV), valid e r = valid (-1) p ∧ (∀ k ∈ r, k ∈ p) ∧ a = ⟨[some (.im (paD p)), some (.im (.int e)), r2, r3, r4], S⟩) ?_ ?_ p _ ⟨-1, _, _, _, rfl, fun _ k => k, rfl⟩
  · rintro k r a N ⟨e, r2, r3, r4, hv, hm, rfl⟩ hN
    have kp := hm k List.mem_cons_self
    have hsz : k.g.length + k.c.length < sizeLine := by have := gc_le kp; omega
    refine ite2 (fun h1 => ?_) (fun h1 => ?_)
    · have h1 : k.s ≤ e := by simpa using h1
      show Q (.bl false) S
      have : valid (-1) p = false := by
        rw [← hv]; unfold valid; rw [decide_eq_false (by omega)]; rfl
      rw [← this]; exact h
    · have h1 : ¬ k.s ≤ e := by simpa using h1
      refine ⟨okL_cmp (n := 8) (fp.g k kp), okL_cmp (n := 8) (fp.c k kp), ?_⟩
      refine ite2 (fun h2 => ?_) (fun h2 => ?_)
      · rw [same_strs] at h2
        have h2 : k.g = k.c := by simpa using h2
        show Q (.bl false) S
        have : valid (-1) p = false := by
          rw [← hv]; unfold valid; rw [decide_eq_true h2]; simp
        rw [← this]; exact h
      · rw [same_strs] at h2
        have h2 : ¬ k.g = k.c := by simpa using h2
        refine ⟨by rw [List.length_map, List.length_map]; omega, fun d hd => ?_, ?_⟩
        · rcases List.mem_append.mp hd with z | z
          · obtain ⟨y, _, rfl⟩ := List.mem_map.mp z
            exact ⟨y, rfl⟩
          · obtain ⟨y, _, rfl⟩ := List.mem_map.mp z
            exact ⟨y, rfl⟩
        · refine hN _ ⟨k.s + ((k.g.map D.str).length : Nat), _, _, _, ?_, fun z hz => hm z (List.mem_cons_of_mem _ hz), rfl⟩
          rw [← hv, List.length_map]
          conv => rhs; unfold valid
          rw [decide_eq_true (show e < k.s by omega), decide_eq_false h2]
          simp
  · rintro a ⟨e, r2, r3, r4, hv, _, rfl⟩
    show Q (.bl true) S
    have : valid (-1) p = true := by rw [← hv]; rfl
    rw [← this]; exact h
end
end Ab


namespace Ab
open PySem L2
/-! ### the stack, plainly -/
structure Wd where
  base : List Str
  words : List Str
  pat : Str → Option (List Hk)
  many : Nat
def Pats (ks : List (Str × D)) (f : Str → Option (List Hk)) : Prop := ∀ s, lookD ks s = (f s).map paD
def stk (W : Wd) (ks : List (Str × D)) : Stk := ⟨strsD W.base, .lst (W.words.map .str), ks, (W.many : Nat)⟩
/-- the patches of these words, put on one after another -/
def Runs (f : Str → Option (List Hk)) : List Str → List Str → List Str → Prop
  | l, [], m => l = m
  | l, w :: r, m => ∃ p l', f w = some p ∧ okL l ∧ Fine p ∧ Short l p ∧ putOn l p = some l' ∧ Runs f l' r m
def fLinesS : FD := fun _ xs S P => ∃ W ks m, xs = [.stk] ∧ S = some (stk W ks) ∧ Pats ks W.pat ∧ W.words.length < sizeLine ∧ Runs W.pat W.base (W.words.take W.many) m ∧ P (strsD m) S
def fAppliedS : FD := fun _ xs S P => ∃ W ks, xs = [.stk] ∧ S = some (stk W ks) ∧ P (.tup ((W.words.take W.many).map .str)) S
def fWaitingS : FD := fun _ xs S P => ∃ W ks, xs = [.stk] ∧ S = some (stk W ks) ∧ P (.tup ((W.words.drop W.many).map .str)) S
theorem cutD_take {ds : List D} {n : Nat} : cutD ds none (some (n : Int)) = ds.take n := by
  unfold cutD
  rw [sIx_some (by omega), HT.sIx_none]
  simp [List.take_eq_take_iff]
section
variable {P : Program} {w : World} {K : PySem.W.Frag} {mg : Str → Option Value} {base : Heap} {Z : Cl}
abbrev s_applied : Stmt := inClass (top 24) 12
abbrev n_applied : List Str := ["self"]
theorem sc_applied : FnScope n_applied ["self"] (defScope s_applied) := ⟨rfl, rfl, rfl, by decide +kernel, rfl, by decide +kernel, by decide +kernel⟩
theorem ok_applied {f : Addr} {fd : FuncData} (Fn : Fun K "applied" "Stack.applied" s_applied f fd) (Tb : Blt mg) (Ts : StkTxt K Z) : FnOk P w K mg base (L2.CX P w) 1 f fd ["self"] (spA Z 1 fAppliedS) := by
  refine aok Fn sc_applied rfl fun cdv A outer s H E hr => ?_
  refine ⟨_, (ss_one (s_ret (atpl (asl (aat 0 .words Ts) ono (oso (aat 0 .many Ts))) Tb.tuple (by rfl)))), fun EA xs S Q h hn => ?_⟩
  obtain ⟨W, ks, rfl, rfl, h⟩ := h
  show Q (.tup (cutD (W.words.map .str) none (some (W.many : Int)))) _
  rw [cutD_take, ← List.map_take]
  exact h
abbrev s_waiting : Stmt := inClass (top 24) 13
abbrev n_waiting : List Str := ["self"]
theorem sc_waiting : FnScope n_waiting ["self"] (defScope s_waiting) := ⟨rfl, rfl, rfl, by decide +kernel, rfl, by decide +kernel, by decide +kernel⟩
theorem ok_waiting {f : Addr} {fd : FuncData} (Fn : Fun K "waiting" "Stack.waiting" s_waiting f fd) (Tb : Blt mg) (Ts : StkTxt K Z) : FnOk P w K mg base (L2.CX P w) 1 f fd ["self"] (spA Z 1 fWaitingS) := by
  refine aok Fn sc_waiting rfl fun cdv A outer s H E hr => ?_
  refine ⟨_, (ss_one (s_ret (atpl (asl (aat 0 .words Ts) (oso (aat 0 .many Ts)) ono) Tb.tuple (by rfl)))), fun EA xs S Q h hn => ?_⟩
  obtain ⟨W, ks, rfl, rfl, h⟩ := h
  show Q (.tup (cutD (W.words.map .str) (some (W.many : Int)) none)) _
  rw [cutD_end (by omega)]
  show Q (.tup ((W.words.map .str).drop W.many)) _
  rw [← List.map_drop]
  exact h
abbrev s_lines : Stmt := inClass (top 24) 1
abbrev n_lines : List Str := ["self", "found", "word"]
theorem sc_lines : FnScope n_lines ["self"] (defScope s_lines) := ⟨rfl, rfl, rfl, by decide +kernel, rfl, by decide +kernel, by decide +kernel⟩
theorem ok_lines {f : Addr} {fd : FuncData} (Fn : Fun K "lines" "Stack.lines" s_lines f fd) (Tb : Blt mg) (Ts : StkTxt K Z) (D_put_on : Dfn P w K mg base Z 1 "put_on" 2 fPutOn) : FnOk P w K mg base (L2.CX P w) 2 f fd ["self"] (spA Z 1 fLinesS) := by
  refine aok Fn sc_lines rfl fun cdv A outer s H E hr => ?_
  have hp := passes_of (X := cxOf (L2.CX P w) P w K mg base n_lines "Stack.lines" (defScope s_lines) f cdv A outer s H E) rfl
  have tk := takes_of (X := cxOf (L2.CX P w) P w K mg base n_lines "Stack.lines" (defScope s_lines) f cdv A outer s H E) rfl rfl rfl rfl
  have hu1 := hu2 hr
  refine ⟨_, (ss_cons (s_set 1 (aat 0 .base Ts) sc_lines.nd)
    (ss_cons (s_for hp rfl (i_l (asl (aat 0 .words Ts) ono (oso (aat 0 .many Ts)))) (g_nm 2 sc_lines.nd)
      (ss_one (s_set 1 (acl D_put_on hr (by decide) tk (aa_cons (av 1) (aa_cons (aget hu1 (kat 0 Ts) (qv 2)) aa_nil)) (by rfl)) sc_lines.nd)))
    (ss_one (s_ret (av 1))))), fun EA xs S Q h hn => ?_⟩
  obtain ⟨W, ks, m, rfl, rfl, hp, hz, hr', h⟩ := h
  show forA _ _ (cutD (W.words.map .str) none (some (W.many : Int))) _ _
  rw [cutD_take, ← List.map_take]
  refine forA_inv D.str (fun r a => ∃ (l : List Str) (r2 : Option AV), Runs W.pat l r m ∧ a = ⟨[some .stk, some (.im (strsD l)), r2], some (stk W ks)⟩) ?_ ?_ _ _ ⟨_, _, hr', rfl⟩
  · rintro x r a N ⟨l, r2, ⟨p, l', e1, e2, e3, e4, e5, e6⟩, rfl⟩ hN
    refine ⟨paD p, by show lookD ks x = _; rw [hp, e1]; rfl, rfl, l, p, rfl, e2, e3, e4, fun m' em => ?_, fun em => ?_⟩
    · rw [e5] at em; cases em
      exact hN _ ⟨l', _, e6, rfl⟩
    · rw [e5] at em; cases em
  · rintro a ⟨l, r2, e, rfl⟩
    have e : l = m := e
    subst e
    exact h
end
end Ab


namespace Ab
open PySem L2
def fCheck : FD := fun EA xs S P => ∃ W ks x, xs = [.stk, .im (.str x)] ∧ S = some (stk W ks) ∧ Pats ks W.pat ∧ x.length ≤ 1000 ∧ (isWord x = false → EA (.invName x) S) ∧ (isWord x = true → W.pat x = none → EA .noSuch S) ∧ (∀ p, isWord x = true → W.pat x = some p → P .non S)
def fPop : FD := fun EA xs S P => ∃ W ks, xs = [.stk] ∧ S = some (stk W ks) ∧ W.many ≤ W.words.length ∧ (W.many = 0 → EA .noSuch S) ∧ (∀ n x, W.many = n + 1 → W.words[n]? = some x → P (.str x) (some (stk { W with many := n } ks)))
def fPush : FD := fun EA xs S P => ∃ W ks m, xs = [.stk] ∧ S = some (stk W ks) ∧ Pats ks W.pat ∧ W.words.length < sizeLine ∧ Runs W.pat W.base (W.words.take W.many) m ∧ W.many ≤ W.words.length ∧ (W.many = W.words.length → EA .noSuch S) ∧
  (∀ x, W.words[W.many]? = some x → ∃ p, W.pat x = some p ∧ okL m ∧ Fine p ∧ Short m p ∧ (putOn m p = none → EA .conflict S) ∧ (∀ n, putOn m p = some n → P (.str x) (some (stk { W with many := W.many + 1 } ks))))
def fPatchS : FD := fun _ xs S P => ∃ W ks x p, xs = [.stk, .im (.str x)] ∧ S = some (stk W ks) ∧ Pats ks W.pat ∧ x.length ≤ 1000 ∧ isWord x = true ∧ W.pat x = some p ∧ P (paD p) S
def setP (f : Str → Option (List Hk)) (x : Str) (p : List Hk) : Str → Option (List Hk) := fun y => if y = x then some p else f y
theorem Pats.set {ks : List (Str × D)} {f : Str → Option (List Hk)} (h : Pats ks f) (x : Str) (p : List Hk) : Pats (putD ks x (paD p)) (setP f x p) := fun y => by
  rw [lookD_put]
  unfold setP
  by_cases e : y = x
  · rw [if_pos e, if_pos e]; rfl
  · rw [if_neg e, if_neg e]; exact h y
def fAddS : FD := fun EA xs S P => ∃ W ks x p m, xs = [.stk, .im (.str x), .im (paD p)] ∧ S = some (stk W ks) ∧ Pats ks W.pat ∧ W.words.length + 10 < sizeLine ∧ ks.length < sizeLine ∧ Runs W.pat W.base (W.words.take W.many) m ∧ x.length ≤ 1000 ∧ isWord x = true ∧ Fine p ∧ okL m ∧ Short m p ∧ gsum p + csum p < sizeLine ∧
  ((W.pat x).isSome = true ∨ valid (-1) p = false → EA (.refused x) S) ∧ (W.pat x = none → valid (-1) p = true → (putOn m p = none → EA .conflict S) ∧
    ∀ n, putOn m p = some n → P .non (some (stk { W with words := W.words.take W.many ++ [x] ++ W.words.drop W.many, pat := setP W.pat x p, many := W.many + 1 } (putD ks x (paD p)))))
theorem atI_nat {α : Type} {l : List α} {n : Nat} (h : n < l.length) : atI l (n : Int) = l[n]? := by
  unfold atI ixN
  rw [if_pos (by omega), if_pos (by omega)]
  simp
section
variable {P : Program} {w : World} {K : PySem.W.Frag} {mg : Str → Option Value} {base : Heap} {Z : Cl}
abbrev s_check : Stmt := inClass (top 24) 2
abbrev n_check : List Str := ["self", "word"]
theorem sc_check : FnScope n_check ["self", "word"] (defScope s_check) := ⟨rfl, rfl, rfl, by decide +kernel, rfl, by decide +kernel, by decide +kernel⟩
theorem ok_check {f : Addr} {fd : FuncData} (Fn : Fun K "check" "Stack.check" s_check f fd) (Tb : Blt mg) (Te : Errs P K mg Z) (Ts : StkTxt K Z) (D_is_word : Dfn P w K mg base Z 1 "is_word" 1 fIsWord) : FnOk P w K mg base (L2.CX P w) 2 f fd ["self", "word"] (spA Z 2 fCheck) := by
  refine aok Fn sc_check rfl fun cdv A outer s H E hr => ?_
  have tk := takes_of (X := cxOf (L2.CX P w) P w K mg base n_check "Stack.check" (defScope s_check) f cdv A outer s H E) rfl rfl rfl rfl
  have hu1 := hu2 hr
  refine ⟨_, (ss_cons (s_if (tnot (tval (acl D_is_word hr (by decide) tk (aa_cons (av 1) aa_nil) (by rfl))))
      (ss_one (s_in Te hr rfl tk (av 1) (by rfl)))
      ss_nil)
    (ss_one (s_if (aknin hu1 (av 1) (kat 0 Ts))
      (ss_one (s_no Te rfl tk (by rfl)))
      ss_nil))), fun EA xs S Q h hn => ?_⟩
  obtain ⟨W, ks, x, rfl, rfl, hp, hx, k1, k2, k3⟩ := h
  refine ⟨rfl, x, rfl, hx, ?_⟩
  refine ite2 (fun h1 => ?_) (fun h1 => ?_)
  · have h1 : isWord x = false := by simpa using h1
    exact ⟨.invName x, rfl, k1 h1⟩
  · have h1 : isWord x = true := by simpa using h1
    refine ite2 (fun h2 => ?_) (fun h2 => ?_)
    · have h2 : (lookD ks x).isSome = false := by simpa [stk] using h2
      have h3 : W.pat x = none := by
        rw [hp] at h2
        cases e : W.pat x with
        | none => rfl
        | some p => rw [e] at h2; cases h2
      exact k2 h1 h3
    · have h2 : (lookD ks x).isSome = true := by cases e : lookD ks x <;> simp_all [stk]
      cases e : W.pat x with
      | none => rw [hp, e] at h2; cases h2
      | some p => exact k3 p h1 e
abbrev s_pop : Stmt := inClass (top 24) 4
abbrev n_pop : List Str := ["self"]
theorem sc_pop : FnScope n_pop ["self"] (defScope s_pop) := ⟨rfl, rfl, rfl, by decide +kernel, rfl, by decide +kernel, by decide +kernel⟩
theorem ok_pop {f : Addr} {fd : FuncData} (Fn : Fun K "pop" "Stack.pop" s_pop f fd) (Te : Errs P K mg Z) (Ts : StkTxt K Z) : FnOk P w K mg base (L2.CX P w) 1 f fd ["self"] (spA Z 1 fPop) := by
  refine aok Fn sc_pop rfl fun cdv A outer s H E hr => ?_
  have tk := takes_of (X := cxOf (L2.CX P w) P w K mg base n_pop "Stack.pop" (defScope s_pop) f cdv A outer s H E) rfl rfl rfl rfl
  have hu := hu64 hr
  refine ⟨_, (ss_cons (s_if (tcmp (ao_eq hu) (aat 0 .many Ts) ai (nomark _))
      (ss_one (s_no Te rfl tk (by rfl)))
      ss_nil)
    (ss_cons (s_dec 0 Ts qi)
    (ss_one (s_ret (aix (aat 0 .words Ts) (aat 0 .many Ts)))))), fun EA xs S Q h hn => ?_⟩
  obtain ⟨W, ks, rfl, rfl, hm, k1, k2⟩ := h
  refine ⟨rfl, rfl, ?_⟩
  refine ite2 (fun h1 => ?_) (fun h1 => ?_)
  · have h1 : W.many = 0 := by simpa [stk, Fd.get, same] using h1
    exact k1 h1
  · have h1 : ¬ W.many = 0 := by simpa [stk, Fd.get, same] using h1
    obtain ⟨n, en⟩ := Nat.exists_eq_succ_of_ne_zero h1
    have en : W.many = n + 1 := en
    have hl : n < W.words.length := by omega
    have e1 : (W.many : Int) - 1 = (n : Int) := by omega
    have k3 := k2 n (W.words[n]) en (List.getElem?_eq_getElem hl)
    refine ⟨.str (W.words[n]), ?_, ?_⟩
    · show atI (W.words.map D.str) ((W.many : Int) - 1) = _
      rw [e1, atI_nat (by rw [List.length_map]; exact hl)]
      simp
    · show Q _ (some ⟨strsD W.base, .lst (W.words.map .str), ks, (W.many : Int) - 1⟩)
      rw [e1]
      exact k3
abbrev s_push : Stmt := inClass (top 24) 5
abbrev n_push : List Str := ["self", "word"]
theorem sc_push : FnScope n_push ["self"] (defScope s_push) := ⟨rfl, rfl, rfl, by decide +kernel, rfl, by decide +kernel, by decide +kernel⟩
theorem ok_push {f : Addr} {fd : FuncData} (Fn : Fun K "push" "Stack.push" s_push f fd) (Tb : Blt mg) (Te : Errs P K mg Z) (Ts : StkTxt K Z) (D_put_on : Dfn P w K mg base Z 1 "put_on" 2 fPutOn) (M_lines : Mtd P w K mg base Z 2 "lines" 1 fLinesS) : FnOk P w K mg base (L2.CX P w) 3 f fd ["self"] (spA Z 1 fPush) := by
  refine aok Fn sc_push rfl fun cdv A outer s H E hr => ?_
  have tk := takes_of (X := cxOf (L2.CX P w) P w K mg base n_push "Stack.push" (defScope s_push) f cdv A outer s H E) rfl rfl rfl rfl
  have hu := hu64 hr
  have hu1 := hu2 hr
  refine ⟨_, (ss_cons (s_if (tcmp (ao_eq hu) (aat 0 .many Ts) (alen (aat 0 .words Ts) Tb.len (by rfl)) (nomark _))
      (ss_one (s_no Te rfl tk (by rfl)))
      ss_nil)
    (ss_cons (s_set 1 (aix (aat 0 .words Ts) (aat 0 .many Ts)) sc_push.nd)
    (ss_cons (s_expr (acl D_put_on hr (by decide) tk (aa_cons (ams0 0 Ts M_lines hr (by decide) tk) (aa_cons (aget hu1 (kat 0 Ts) (qv 1)) aa_nil)) (by rfl)))
    (ss_cons (s_inc 0 Ts qi)
    (ss_one (s_ret (av 1))))))), fun EA xs S Q h hn => ?_⟩
  obtain ⟨W, ks, m, rfl, rfl, hp, hz, hr', hm, k1, k2⟩ := h
  have hl : (W.words.map D.str).length = W.words.length := List.length_map _
  refine ⟨rfl, rfl, ?_⟩
  refine ite2 (fun h1 => ?_) (fun h1 => ?_)
  · have h1 : (W.many : Int) = (W.words.length : Nat) := by simpa [stk, Fd.get, same] using h1
    have h1 : W.many = W.words.length := by omega
    exact k1 h1
  · have h1 : ¬ (W.many : Int) = (W.words.length : Nat) := by simpa [stk, Fd.get, same] using h1
    have hlt : W.many < W.words.length := by omega
    obtain ⟨p, k3, k4, k5, k6, k7, k8⟩ := k2 _ (List.getElem?_eq_getElem hlt)
    refine ⟨.str (W.words[W.many]), ?_, ?_⟩
    · show atI (W.words.map D.str) (W.many : Int) = _
      rw [atI_nat (by rw [hl]; exact hlt)]
      simp
    · refine ⟨rfl, W, ks, m, rfl, rfl, hp, hz, hr', ?_⟩
      refine ⟨paD p, by show lookD ks _ = _; rw [hp, k3]; rfl, rfl, m, p, rfl, k4, k5, k6, fun n en => ?_, fun en => k7 en⟩
      show Q _ (some ⟨strsD W.base, .lst (W.words.map .str), ks, (W.many : Int) + 1⟩)
      exact k8 n en
abbrev s_patch : Stmt := inClass (top 24) 14
abbrev n_patch : List Str := ["self", "word"]
theorem sc_patch : FnScope n_patch ["self", "word"] (defScope s_patch) := ⟨rfl, rfl, rfl, by decide +kernel, rfl, by decide +kernel, by decide +kernel⟩
theorem ok_patch {f : Addr} {fd : FuncData} (Fn : Fun K "patch" "Stack.patch" s_patch f fd) (Ts : StkTxt K Z) (M_check : Mtd P w K mg base Z 2 "check" 2 fCheck) : FnOk P w K mg base (L2.CX P w) 3 f fd ["self", "word"] (spA Z 2 fPatchS) := by
  refine aok Fn sc_patch rfl fun cdv A outer s H E hr => ?_
  have tk := takes_of (X := cxOf (L2.CX P w) P w K mg base n_patch "Stack.patch" (defScope s_patch) f cdv A outer s H E) rfl rfl rfl rfl
  have hu1 := hu2 hr
  refine ⟨_, (ss_cons (s_expr (ams 0 Ts M_check hr (by decide) tk (aa_cons (av 1) aa_nil)))
    (ss_one (s_ret (aget hu1 (kat 0 Ts) (qv 1))))), fun EA xs S Q h hn => ?_⟩
  obtain ⟨W, ks, x, p, rfl, rfl, hp, hx, h1, h2, h⟩ := h
  refine ⟨rfl, W, ks, x, rfl, rfl, hp, hx, fun e => (by rw [h1] at e; cases e), fun _ e => (by rw [h2] at e; cases e), fun q _ e => ?_⟩
  exact ⟨paD p, by show lookD ks x = _; rw [hp, h2]; rfl, h⟩
abbrev s_add : Stmt := inClass (top 24) 3
abbrev n_add : List Str := ["self", "word", "patch"]
theorem sc_add : FnScope n_add ["self", "word", "patch"] (defScope s_add) := ⟨rfl, rfl, rfl, by decide +kernel, rfl, by decide +kernel, by decide +kernel⟩
theorem ok_add {f : Addr} {fd : FuncData} (Fn : Fun K "add" "Stack.add" s_add f fd) (Tb : Blt mg) (Te : Errs P K mg Z) (Ts : StkTxt K Z) (D_put_on : Dfn P w K mg base Z 1 "put_on" 2 fPutOn) (D_is_word : Dfn P w K mg base Z 1 "is_word" 1 fIsWord) (D_is_patch : Dfn P w K mg base Z 1 "is_patch" 1 fIsPatch) (M_lines : Mtd P w K mg base Z 2 "lines" 1 fLinesS) : FnOk P w K mg base (L2.CX P w) 3 f fd ["self", "word", "patch"] (spA Z 3 fAddS) := by
  refine aok Fn sc_add rfl fun cdv A outer s H E hr => ?_
  have tk := takes_of (X := cxOf (L2.CX P w) P w K mg base n_add "Stack.add" (defScope s_add) f cdv A outer s H E) rfl rfl rfl rfl
  have hu1 := hu2 hr
  refine ⟨_, (ss_cons (s_if (tnot (tval (acl D_is_word hr (by decide) tk (aa_cons (av 1) aa_nil) (by rfl))))
      (ss_one (s_in Te hr rfl tk (av 1) (by rfl)))
      ss_nil)
    (ss_cons (s_if (wor (akin hu1 (av 1) (kat 0 Ts)) (wor1 (tnot (tval (acl D_is_patch hr (by decide) tk (aa_cons (av 2) aa_nil) (by rfl)))))).at
      (ss_one (s_rf Te hr rfl tk (av 1) (by rfl)))
      ss_nil)
    (ss_cons (s_expr (acl D_put_on hr (by decide) tk (aa_cons (ams0 0 Ts M_lines hr (by decide) tk) (aa_cons (av 2) aa_nil)) (by rfl)))
    (ss_cons (s_fld 0 .words Ts (ao ao_add (ao ao_add (asl (aat 0 .words Ts) ono (oso (aat 0 .many Ts))) (anew (alst (aa_cons (av 1) aa_nil)))) (asl (aat 0 .words Ts) (oso (aat 0 .many Ts)) ono)))
    (ss_cons (s_putP 0 Ts hu1 (qv 1) (atpl (av 2) Tb.tuple (by rfl)))
    (ss_one (s_inc 0 Ts qi))))))), fun EA xs S Q h hn => ?_⟩
  obtain ⟨W, ks, x, p, m, rfl, rfl, hp, hz, hk, hr', hx, hw, fp, om, sh, hg, k1, k2⟩ := h
  refine ⟨rfl, x, rfl, hx, ?_⟩
  refine ite2 (fun h1 => ?_) (fun h1 => ?_)
  · rw [hw] at h1; simp at h1
  have rest : ∀ (hv : W.pat x = none) (hd : valid (-1) p = true), sSeq (sDrop (fCall 2 fPutOn (fCons (fMeth 0 1 fLinesS fNil) (fCons (fVar 2) fNil)))) (sSeq (sFld 0 Fd.words (fOp FAdd (fOp FAdd (fSl (fAt 0 Fd.words) oNo (oSo (fAt 0 Fd.many))) (fNew (nLst (fCons (fVar 1) fNil)))) (fSl (fAt 0 Fd.words) (oSo (fAt 0 Fd.many)) oNo))) (sSeq (sPutP 0 (qVar 1) (fTpl (fVar 2))) (sInc 0 (fun x1 x2 => x1 + x2) (qC (D.int 1))))) (endA EA Q) ⟨[some .stk, some (.im (.str x)), some (.im (paD p))], some (stk W ks)⟩ := fun hv hd => by
    obtain ⟨k3, k4⟩ := k2 hv hd
    refine ⟨rfl, W, ks, m, rfl, rfl, hp, by omega, hr', ?_⟩
    refine ⟨rfl, m, p, rfl, om, fp, sh, fun n en => ?_, fun en => k3 en⟩
    have et : cutD (W.words.map D.str) none (some (W.many : Int)) = (W.words.take W.many).map D.str := by rw [cutD_take, List.map_take]
    have ed : cutD (W.words.map D.str) (some (W.many : Int)) none = (W.words.drop W.many).map D.str := by rw [cutD_end (by omega), List.map_drop]; rfl
    have l1 : (W.words.take W.many).length + (W.words.drop W.many).length = W.words.length := by rw [← List.length_append, List.take_append_drop]
    have l2 : (W.words.drop W.many).length ≤ W.words.length := by rw [List.length_drop]; omega
    refine ⟨sz3 (show 1 ≤ 1000 by decide), ?_, ?_, ⟨strsD W.base, .lst (cutD (W.words.map D.str) none (some (W.many : Int)) ++ [.str x] ++ cutD (W.words.map D.str) (some (W.many : Int)) none), ks, (W.many : Nat)⟩, rfl, hk, ?_⟩
    · show (cutD (W.words.map D.str) none (some (W.many : Int))).length + 1 ≤ _
      rw [et, List.length_map]; omega
    · show (cutD (W.words.map D.str) none (some (W.many : Int)) ++ [D.str x]).length + (cutD (W.words.map D.str) (some (W.many : Int)) none).length ≤ _
      rw [et, ed, List.length_append, List.length_map, List.length_map]; simp only [List.length_cons, List.length_nil]; omega
    · have e3 : cutD (W.words.map D.str) none (some (W.many : Int)) ++ [.str x] ++ cutD (W.words.map D.str) (some (W.many : Int)) none = (W.words.take W.many ++ [x] ++ W.words.drop W.many).map D.str := by rw [et, ed]; simp
      show Q .non (some ⟨strsD W.base, .lst (cutD (W.words.map D.str) none (some (W.many : Int)) ++ [.str x] ++ cutD (W.words.map D.str) (some (W.many : Int)) none), putD ks x (paD p), (W.many : Int) + 1⟩)
      rw [e3]
      exact k4 n en
  refine ite2 (fun h2 => ?_) (fun h2 => ?_)
  · have h2 : (lookD ks x).isSome = true := by simpa [stk] using h2
    refine ⟨.refused x, rfl, k1 (.inl ?_)⟩
    rw [hp] at h2
    cases e : W.pat x with
    | none => rw [e] at h2; cases h2
    | some p => rfl
  · have h2 : (lookD ks x).isSome = false := by simpa [stk] using h2
    have hv : W.pat x = none := by
      rw [hp] at h2
      cases e : W.pat x with
      | none => rfl
      | some p => rw [e] at h2; cases h2
    refine ⟨rfl, p, rfl, fp, hg, ?_⟩
    refine ite2 (fun h3 => ?_) (fun h3 => ?_)
    · have h3 : valid (-1) p = false := by simpa using h3
      exact ⟨.refused x, rfl, k1 (.inr h3)⟩
    · have h3 : valid (-1) p = true := by simpa using h3
      exact rest hv h3
end
end Ab


namespace Ab
open PySem L2
/-! ### patches, plainly: carried over others -/
theorem valid_cons {e : Int} {h : Hk} {r : List Hk} (v : valid e (h :: r) = true) : e < h.s ∧ ¬ h.g = h.c ∧ valid (h.s + h.g.length) r = true := by
  unfold valid at v
  simp only [Bool.and_eq_true, decide_eq_true_eq, Bool.not_eq_true', decide_eq_false_iff_not] at v
  exact ⟨v.1.1, v.1.2, v.2⟩
theorem valid_of {e : Int} {h : Hk} {r : List Hk} (h1 : e < h.s) (h2 : ¬ h.g = h.c) (h3 : valid (h.s + h.g.length) r = true) : valid e (h :: r) = true := by
  unfold valid
  rw [decide_eq_true h1, decide_eq_false h2, h3]
  rfl
theorem valid_mono {e e' : Int} : ∀ {r : List Hk}, e' ≤ e → valid e r = true → valid e' r = true
  | [], _, _ => rfl
  | h :: r, q, v => by
    obtain ⟨h1, h2, h3⟩ := valid_cons v
    exact valid_of (by omega) h2 h3
theorem valid_gt {e : Int} : ∀ {r : List Hk}, valid e r = true → ∀ k ∈ r, e < k.s
  | [], _, k, hk => by cases hk
  | h :: r, v, k, hk => by
    obtain ⟨h1, h2, h3⟩ := valid_cons v
    rcases List.mem_cons.mp hk with z | z
    · rw [z]; exact h1
    · have := valid_gt h3 k z
      omega
theorem touch_no {h k : Hk} (t : touch h k = false) : k.s + k.g.length < h.s ∨ h.s + h.g.length < k.s := by
  unfold touch at t
  by_cases a : h.s ≤ k.s + k.g.length
  · by_cases b : k.s ≤ h.s + h.g.length
    · rw [decide_eq_true a, decide_eq_true b] at t; cases t
    · omega
  · omega
theorem touch_of {h k : Hk} (t : k.s + k.g.length < h.s ∨ h.s + h.g.length < k.s) : touch h k = false := by
  unfold touch
  rcases t with t | t
  · rw [decide_eq_false (by omega)]; rfl
  · rw [decide_eq_false (show ¬ k.s ≤ h.s + h.g.length by omega), Bool.and_false]
theorem touch_comm {h k : Hk} : touch h k = touch k h := by unfold touch; rw [Bool.and_comm]
theorem sumB_none {x : Int} : ∀ {o : List Hk}, (∀ k ∈ o, x ≤ k.s) → sumB o x = 0
  | [], _ => rfl
  | k :: r, h => by
    unfold sumB
    rw [if_neg (by have := h k List.mem_cons_self; omega), sumB_none fun j hj => h j (List.mem_cons_of_mem _ hj)]
    rfl
theorem placeA_sum {h : Hk} : ∀ {o : List Hk} {e m : Int}, valid e o = true → (∀ k ∈ o, touch h k = false) → placeA m o h.s = some (h.s + (m + sumB o h.s))
  | [], e, m, _, _ => by rw [placeA, sumB]; simp
  | k :: r, e, m, v, t => by
    obtain ⟨h1, h2, h3⟩ := valid_cons v
    have tk := touch_no (t k List.mem_cons_self)
    rw [placeA]
    by_cases a : h.s < k.s
    · rw [if_pos a, sumB_none fun j hj => by
        rcases List.mem_cons.mp hj with z | z
        · rw [z]; omega
        · have := valid_gt h3 j z; omega]
      simp
    · rw [if_neg a, if_neg (by omega), placeA_sum h3 fun j hj => t j (List.mem_cons_of_mem _ hj)]
      rw [sumB, if_pos (by omega)]
      congr 1
      omega
theorem touchB_no {p o : List Hk} (t : touchB p o = false) : ∀ h ∈ p, ∀ k ∈ o, touch h k = false := fun h hh k hk => by
  cases e : touch h k with
  | false => rfl
  | true =>
    have : touchB p o = true := by
      unfold touchB
      exact List.any_eq_true.mpr ⟨h, hh, List.any_eq_true.mpr ⟨k, hk, e⟩⟩
    rw [this] at t; cases t
theorem touchB_of {p o : List Hk} (t : ∀ h ∈ p, ∀ k ∈ o, touch h k = false) : touchB p o = false := by
  cases e : touchB p o with
  | false => rfl
  | true =>
    unfold touchB at e
    obtain ⟨h, hh, q⟩ := List.any_eq_true.mp e
    obtain ⟨k, hk, q⟩ := List.any_eq_true.mp q
    rw [t h hh k hk] at q; cases q
theorem carL_ovL {o : List Hk} {e : Int} (v : valid e o = true) : ∀ {p : List Hk}, touchB p o = false → carL p o = some (ovL p o)
  | [], _ => rfl
  | h :: r, t => by
    have t1 := touchB_no t
    have e1 := placeA_sum (m := 0) v (t1 h List.mem_cons_self)
    have e2 := carL_ovL v (p := r) (touchB_of fun j hj => t1 j (List.mem_cons_of_mem _ hj))
    rw [carL, e1, e2]
    simp [ovL]
end Ab


namespace Ab
open PySem L2
/-! ### what is carried stays a patch -/
theorem sumB_cons {k : Hk} {r : List Hk} {x : Int} : sumB (k :: r) x = (if k.s < x then ((k.c.length : Nat) : Int) - ((k.g.length : Nat) : Int) else 0) + sumB r x := rfl
theorem sumB_far {o : List Hk} {e x : Int} (v : valid e o = true) (h : x ≤ e) : sumB o x = 0 := sumB_none fun k hk => by have := valid_gt v k hk; omega
theorem carry_pos {h : Hk} : ∀ {o : List Hk} {e : Int}, valid e o = true → (∀ k ∈ o, touch h k = false) → e < h.s → e < h.s + sumB o h.s
  | [], e, _, _, q => by rw [sumB]; omega
  | k :: r, e, v, t, q => by
    obtain ⟨h1, h2, h3⟩ := valid_cons v
    have tk := touch_no (t k List.mem_cons_self)
    rw [sumB_cons]
    rcases tk with tk | tk
    · have := carry_pos h3 (fun j hj => t j (List.mem_cons_of_mem _ hj)) tk
      rw [if_pos (by omega)]
      omega
    · rw [if_neg (by omega), sumB_far h3 (by omega)]
      omega
theorem carry_gap {h h2 : Hk} : ∀ {o : List Hk} {e : Int}, valid e o = true → (∀ k ∈ o, touch h k = false) → (∀ k ∈ o, touch h2 k = false) → h.s + h.g.length < h2.s → h.s + sumB o h.s + h.g.length < h2.s + sumB o h2.s
  | [], e, _, _, _, q => by rw [sumB, sumB]; omega
  | k :: r, e, v, t, t2, q => by
    obtain ⟨h1, _, h3⟩ := valid_cons v
    have tk := touch_no (t k List.mem_cons_self)
    have tk2 := touch_no (t2 k List.mem_cons_self)
    have IH := carry_gap h3 (fun j hj => t j (List.mem_cons_of_mem _ hj)) (fun j hj => t2 j (List.mem_cons_of_mem _ hj)) q
    rcases tk with tk | tk
    · rw [sumB_cons, sumB_cons, if_pos (by omega), if_pos (by omega)]
      omega
    · have e0 : sumB (k :: r) h.s = 0 := sumB_none fun j hj => by
        rcases List.mem_cons.mp hj with z | z
        · rw [z]; omega
        · have := valid_gt h3 j z; omega
      have v2 : valid (h.s + h.g.length) (k :: r) = true := by
        obtain ⟨_, n2, _⟩ := valid_cons v
        exact valid_of tk n2 h3
      have := carry_pos v2 t2 q
      rw [e0]
      omega
theorem valid_ovL {o : List Hk} {e' : Int} (vo : valid e' o = true) : ∀ {p : List Hk} {e : Int}, valid e p = true → (∀ h ∈ p, ∀ k ∈ o, touch h k = false) → ∀ e2 : Int, (∀ h r, p = h :: r → e2 < h.s + sumB o h.s) → valid e2 (ovL p o) = true
  | [], e, _, _, e2, _ => rfl
  | h :: r, e, v, t, e2, q => by
    obtain ⟨h1, h2, h3⟩ := valid_cons v
    refine valid_of (q h r rfl) h2 ?_
    refine valid_ovL vo h3 (fun j hj => t j (List.mem_cons_of_mem _ hj)) _ fun j r2 ej => ?_
    subst ej
    obtain ⟨g1, _, _⟩ := valid_cons h3
    exact carry_gap vo (t h List.mem_cons_self) (t j (List.mem_cons_of_mem _ List.mem_cons_self)) g1
theorem valid_carried {p o : List Hk} (vp : valid (-1) p = true) (vo : valid (-1) o = true) (t : touchB p o = false) : valid (-1) (ovL p o) = true := by
  have t1 := touchB_no t
  refine valid_ovL vo vp t1 _ fun h r e => ?_
  subst e
  obtain ⟨h1, _, _⟩ := valid_cons vp
  exact carry_pos vo (t1 h List.mem_cons_self) h1
/-! ### turned back -/
theorem valid_backF : ∀ {p : List Hk} {e m : Int}, valid e p = true → valid (e + m) (backF m p) = true
  | [], _, _, _ => rfl
  | h :: r, e, m, v => by
    obtain ⟨h1, h2, h3⟩ := valid_cons v
    refine valid_of (show e + m < h.s + m by omega) (fun e => h2 e.symm) ?_
    have := valid_backF (m := m + h.c.length - h.g.length) h3
    exact valid_mono (by show h.s + m + (h.c.length : Nat) ≤ _; omega) this
theorem valid_back {p : List Hk} (v : valid (-1) p = true) : valid (-1) (back p) = true := by
  have := valid_backF (m := 0) v
  simpa using this
theorem back_round {h : Hk} : ∀ {p : List Hk} {e m : Int}, valid e p = true → e < h.s - m → (∀ k ∈ backF m p, touch h k = false) →
    e < h.s - m + sumB (backF m p) h.s ∧ sumB p (h.s - m + sumB (backF m p) h.s) = - sumB (backF m p) h.s ∧ ∀ k ∈ p, touch ⟨h.s - m + sumB (backF m p) h.s, h.g, h.c⟩ k = false
  | [], e, m, _, q, _ => ⟨by simp [backF, sumB]; omega, by simp [backF, sumB], fun _ hk => by cases hk⟩
  | k :: r, e, m, v, q, t => by
    obtain ⟨h1, h2, h3⟩ := valid_cons v
    have tk := touch_no (t _ (show (⟨k.s + m, k.c, k.g⟩ : Hk) ∈ backF m (k :: r) from List.mem_cons_self))
    have vb := valid_backF (m := m) v
    rcases tk with tk | tk
    · have tk : k.s + m + (k.c.length : Nat) < h.s := tk
      have IH := back_round (h := h) (m := m + k.c.length - k.g.length) h3 (by omega) (fun j hj => t j (List.mem_cons_of_mem _ hj))
      have es : sumB (backF m (k :: r)) h.s = ((k.g.length : Nat) : Int) - ((k.c.length : Nat) : Int) + sumB (backF (m + k.c.length - k.g.length) r) h.s := by
        show (if k.s + m < h.s then _ else _) + _ = _
        rw [if_pos (by omega)]
      have ex : h.s - m + sumB (backF m (k :: r)) h.s = h.s - (m + k.c.length - k.g.length) + sumB (backF (m + k.c.length - k.g.length) r) h.s := by rw [es]; omega
      rw [ex]
      obtain ⟨i1, i2, i3⟩ := IH
      refine ⟨by omega, ?_, fun j hj => ?_⟩
      · rw [sumB_cons, if_pos (by omega), i2, es]; omega
      · rcases List.mem_cons.mp hj with z | z
        · subst z; exact touch_of (.inl i1)
        · exact i3 j z
    · have tk : h.s + (h.g.length : Nat) < k.s + m := tk
      have e0 : sumB (backF m (k :: r)) h.s = 0 := sumB_none fun j hj => by
        obtain ⟨b1, b2, b3⟩ := valid_cons (show valid (e + m) (⟨k.s + m, k.c, k.g⟩ :: backF (m + k.c.length - k.g.length) r) = true from vb)
        rcases List.mem_cons.mp hj with z | z
        · rw [z]; show h.s ≤ k.s + m; omega
        · have := valid_gt b3 j z
          have : k.s + m + (k.c.length : Nat) < j.s := this
          omega
      rw [e0]
      refine ⟨by omega, ?_, fun j hj => touch_of (.inr ?_)⟩
      · rw [sumB_none fun j hj => ?_]
        · rfl
        · rcases List.mem_cons.mp hj with z | z
          · rw [z]; omega
          · have := valid_gt h3 j z; omega
      · show h.s - m + 0 + (h.g.length : Nat) < j.s
        rcases List.mem_cons.mp hj with z | z
        · rw [z]; omega
        · have := valid_gt h3 j z; omega
end Ab


namespace Ab
open PySem L2
/-- a patch put on the lines from place i on -/
def app : Int → List Str → List Hk → Option (List Str)
  | _, rest, [] => some rest
  | i, rest, h :: r =>
    if (h.s - i).toNat ≤ rest.length ∧ (rest.drop (h.s - i).toNat).take h.g.length = h.g then
      (app (h.s + h.g.length) (rest.drop ((h.s - i).toNat + h.g.length)) r).map fun z => rest.take (h.s - i).toNat ++ h.c ++ z
    else none
/-- lines ahead of the first hunk stay -/
theorem app_skip {i j : Int} {a b : List Str} {p : List Hk} (hij : i ≤ j) (ha : a.length = (j - i).toNat) (hp : ∀ h r, p = h :: r → j ≤ h.s) : app i (a ++ b) p = (app j b p).map fun z => a ++ z := by
  cases p with
  | nil => rfl
  | cons h r =>
    have hj := hp h r rfl
    have e1 : (h.s - i).toNat = a.length + (h.s - j).toNat := by omega
    rw [app, app, e1]
    have e2 : (a ++ b).drop (a.length + (h.s - j).toNat) = b.drop (h.s - j).toNat := by rw [List.drop_append]; simp [List.drop_eq_nil_of_le]
    have e3 : (a ++ b).drop (a.length + (h.s - j).toNat + h.g.length) = b.drop ((h.s - j).toNat + h.g.length) := by
      rw [Nat.add_assoc, List.drop_append]; simp [List.drop_eq_nil_of_le]
    have e4 : (a ++ b).take (a.length + (h.s - j).toNat) = a ++ b.take (h.s - j).toNat := by rw [List.take_append]; simp [List.take_of_length_le]
    rw [e2, e3, e4]
    by_cases c : (h.s - j).toNat ≤ b.length ∧ (b.drop (h.s - j).toNat).take h.g.length = h.g
    · rw [if_pos c, if_pos ⟨by rw [List.length_append]; omega, c.2⟩]
      cases app (h.s + h.g.length) (b.drop ((h.s - j).toNat + h.g.length)) r <;> simp
    · rw [if_neg c, if_neg fun z => c ⟨by have := z.1; rw [List.length_append] at this; omega, z.2⟩]
      rfl
end Ab


namespace Ab
open PySem L2
theorem drop_len {α : Type} {a b : List α} {n : Nat} (h : a.length = n) : (a ++ b).drop n = b := by subst h; exact List.drop_left
theorem take_len {α : Type} {a b : List α} {n : Nat} (h : a.length = n) : (a ++ b).take n = a := by subst h; exact List.take_left
def shB (m : Int) (o p : List Hk) : List Hk := p.map fun h => ⟨h.s + m + sumB o h.s, h.g, h.c⟩
def Dia (p o : List Hk) : Prop := ∀ (i : Int) (rest a b : List Str) (mo mp : Int), valid (i - 1) p = true → valid (i - 1) o = true → (∀ h ∈ p, ∀ k ∈ o, touch h k = false) → app i rest p = some a → app i rest o = some b →
  ∃ z, app (i + mo) b (shB mo o p) = some z ∧ app (i + mp) a (shB mp p o) = some z
theorem app_cons {i : Int} {rest a : List Str} {h : Hk} {r : List Hk} (e : app i rest (h :: r) = some a) :
    ∃ z, (h.s - i).toNat ≤ rest.length ∧ (rest.drop (h.s - i).toNat).take h.g.length = h.g ∧ app (h.s + h.g.length) (rest.drop ((h.s - i).toNat + h.g.length)) r = some z ∧ a = rest.take (h.s - i).toNat ++ h.c ++ z := by
  rw [app] at e
  by_cases c : (h.s - i).toNat ≤ rest.length ∧ (rest.drop (h.s - i).toNat).take h.g.length = h.g
  · rw [if_pos c] at e
    cases q : app (h.s + h.g.length) (rest.drop ((h.s - i).toNat + h.g.length)) r with
    | none => rw [q] at e; cases e
    | some z => rw [q] at e; exact ⟨z, c.1, c.2, rfl, (Option.some.inj e).symm⟩
  · rw [if_neg c] at e; cases e
theorem app_of {i : Int} {rest z : List Str} {h : Hk} {r : List Hk} (h1 : (h.s - i).toNat ≤ rest.length) (h2 : (rest.drop (h.s - i).toNat).take h.g.length = h.g) (h3 : app (h.s + h.g.length) (rest.drop ((h.s - i).toNat + h.g.length)) r = some z) :
    app i rest (h :: r) = some (rest.take (h.s - i).toNat ++ h.c ++ z) := by
  rw [app, if_pos ⟨h1, h2⟩, h3]; rfl
theorem dia_step {h : Hk} {r o : List Hk} (IH : Dia r o) (far : ∀ k ∈ o, h.s + h.g.length < k.s) : Dia (h :: r) o := by
  intro i rest a b mo mp vp vo t ha hb
  obtain ⟨v1, v2, v3⟩ := valid_cons vp
  obtain ⟨a2, c1, c2, c3, rfl⟩ := app_cons ha
  have lg : h.g.length ≤ rest.length - (h.s - i).toNat := by
    have := congrArg List.length c2
    rw [List.length_take, List.length_drop] at this
    omega
  have et : rest.take ((h.s - i).toNat + h.g.length) = rest.take (h.s - i).toNat ++ h.g := by rw [List.take_add, c2]
  have er : rest = (rest.take (h.s - i).toNat ++ h.g) ++ rest.drop ((h.s - i).toNat + h.g.length) := by rw [← et, List.take_append_drop]
  have lt : (rest.take (h.s - i).toNat).length = (h.s - i).toNat := by rw [List.length_take]; omega
  have hb2 : app i rest o = (app (h.s + h.g.length) (rest.drop ((h.s - i).toNat + h.g.length)) o).map fun z => (rest.take (h.s - i).toNat ++ h.g) ++ z := by
    conv => lhs; rw [er]
    exact app_skip (by omega) (by rw [List.length_append, lt]; omega) fun k q e => by have := far k (by rw [e]; exact List.mem_cons_self); omega
  rw [hb2] at hb
  cases hq : app (h.s + h.g.length) (rest.drop ((h.s - i).toNat + h.g.length)) o with
  | none => rw [hq] at hb; cases hb
  | some b2 =>
    rw [hq] at hb
    have eb : b = (rest.take (h.s - i).toNat ++ h.g) ++ b2 := (Option.some.inj hb).symm
    have vo2 : valid (h.s + h.g.length - 1) o = true := by
      cases o with
      | nil => rfl
      | cons k q =>
        obtain ⟨w1, w2, w3⟩ := valid_cons vo
        exact valid_of (by have := far k List.mem_cons_self; omega) w2 w3
    have vo3 : valid (h.s + h.g.length) o = true := by
      cases o with
      | nil => rfl
      | cons k q =>
        obtain ⟨w1, w2, w3⟩ := valid_cons vo
        exact valid_of (far k List.mem_cons_self) w2 w3
    obtain ⟨z, z1, z2⟩ := IH (h.s + h.g.length) _ a2 b2 mo (mp + h.c.length - h.g.length) (valid_mono (by omega) v3) vo2 (fun j hj => t j (List.mem_cons_of_mem _ hj)) c3 hq
    have e0 : sumB o h.s = 0 := sumB_none fun k hk => by have := far k hk; omega
    refine ⟨rest.take (h.s - i).toNat ++ h.c ++ z, ?_, ?_⟩
    · have ed : (h.s + mo + sumB o h.s - (i + mo)).toNat = (h.s - i).toNat := by rw [e0]; congr 1; omega
      have := app_of (i := i + mo) (rest := b) (h := ⟨h.s + mo + sumB o h.s, h.g, h.c⟩) (r := shB mo o r) (z := z) (by rw [ed, eb, List.length_append, List.length_append, lt]; omega)
        (by show (b.drop (h.s + mo + sumB o h.s - (i + mo)).toNat).take h.g.length = h.g; rw [ed, eb, List.append_assoc, drop_len lt, List.take_left])
        (by show app (h.s + mo + sumB o h.s + h.g.length) (b.drop ((h.s + mo + sumB o h.s - (i + mo)).toNat + h.g.length)) _ = _
            rw [ed, eb]
            rw [drop_len (show (rest.take (h.s - i).toNat ++ h.g).length = (h.s - i).toNat + h.g.length by rw [List.length_append, lt]), show h.s + mo + sumB o h.s + (h.g.length : Nat) = h.s + h.g.length + mo by rw [e0]; omega]
            exact z1)
      have l4 : b.take (h.s - i).toNat = rest.take (h.s - i).toNat := by
        rw [eb, List.append_assoc, take_len lt]
      show app (i + mo) b (⟨h.s + mo + sumB o h.s, h.g, h.c⟩ :: shB mo o r) = _
      rw [this]
      show some (b.take (h.s + mo + sumB o h.s - (i + mo)).toNat ++ _ ++ _) = _
      rw [ed, l4]
    · have es : shB mp (h :: r) o = shB (mp + h.c.length - h.g.length) r o := by
        unfold shB
        refine List.map_congr_left fun k hk => ?_
        rw [sumB_cons, if_pos (by have := far k hk; omega)]
        congr 1
        omega
      rw [es, app_skip (j := h.s + h.g.length + (mp + h.c.length - h.g.length)) (by omega) (by rw [List.length_append, lt]; omega) fun k q e => ?_, z2]
      · rfl
      · cases o with
        | nil => cases e
        | cons k' q' =>
          injection e with e _
          subst e
          have := carry_pos v3 (fun j hj => (by rw [touch_comm]; exact t j (List.mem_cons_of_mem _ hj) k' List.mem_cons_self)) (far k' List.mem_cons_self)
          show _ ≤ k'.s + _ + _
          omega
theorem Dia.symm {p o : List Hk} (d : Dia p o) : Dia o p := fun i rest a b mo mp vp vo t ha hb => by
  obtain ⟨z, z1, z2⟩ := d i rest b a mp mo vo vp (fun h hh k hk => by rw [touch_comm]; exact t k hk h hh) hb ha
  exact ⟨z, z2, z1⟩
theorem shB_nil {m : Int} {o : List Hk} : shB m o [] = [] := rfl
theorem app_shift {m : Int} : ∀ {p : List Hk} {i : Int} {rest : List Str}, app (i + m) rest (shB m [] p) = app i rest p
  | [], _, _ => rfl
  | h :: r, i, rest => by
    show app (i + m) rest (⟨h.s + m + 0, h.g, h.c⟩ :: shB m [] r) = _
    rw [app, app]
    have e1 : (h.s + m + 0 - (i + m)).toNat = (h.s - i).toNat := by congr 1; omega
    have e2 : h.s + m + 0 + (h.g.length : Nat) = h.s + h.g.length + m := by omega
    show (if (h.s + m + 0 - (i + m)).toNat ≤ rest.length ∧ (rest.drop (h.s + m + 0 - (i + m)).toNat).take h.g.length = h.g then (app (h.s + m + 0 + (h.g.length : Nat)) (rest.drop ((h.s + m + 0 - (i + m)).toNat + h.g.length)) (shB m [] r)).map (fun z => rest.take (h.s + m + 0 - (i + m)).toNat ++ h.c ++ z) else none) = _
    rw [e1, e2, app_shift]
theorem dia_nil {p : List Hk} : Dia p [] := fun i rest a b mo mp vp vo t ha hb => by
  rw [app] at hb
  cases hb
  exact ⟨a, by rw [app_shift]; exact ha, by rw [shB_nil, app]⟩
theorem dia_all : ∀ (n : Nat) (p o : List Hk), p.length + o.length ≤ n → Dia p o
  | _, p, [], _ => dia_nil
  | _, [], o, _ => dia_nil.symm
  | 0, h :: r, k :: q, hn => by simp at hn
  | n + 1, h :: r, k :: q, hn => fun i rest a b mo mp vp vo t ha hb => by
    have tk := touch_no (t h List.mem_cons_self k List.mem_cons_self)
    obtain ⟨v1, v2, v3⟩ := valid_cons vp
    obtain ⟨w1, w2, w3⟩ := valid_cons vo
    rcases tk with tk | tk
    · refine (dia_step (dia_all n (h :: r) q (by simp at hn ⊢; omega)).symm fun j hj => ?_).symm i rest a b mo mp vp vo t ha hb
      rcases List.mem_cons.mp hj with z | z
      · rw [z]; exact tk
      · have := valid_gt v3 j z; omega
    · refine dia_step (dia_all n r (k :: q) (by simp at hn ⊢; omega)) (fun j hj => ?_) i rest a b mo mp vp vo t ha hb
      rcases List.mem_cons.mp hj with z | z
      · rw [z]; exact tk
      · have := valid_gt w3 j z; omega
/-- THE DIAMOND: two patches that do not touch, put on one after another -/
theorem diamond {l a b : List Str} {p o : List Hk} (vp : valid (-1) p = true) (vo : valid (-1) o = true) (t : touchB p o = false) (ha : app 0 l p = some a) (hb : app 0 l o = some b) :
    ∃ z, app 0 b (ovL p o) = some z ∧ app 0 a (ovL o p) = some z := by
  have e : ∀ p o : List Hk, shB 0 o p = ovL p o := fun p o => by unfold shB ovL; simp
  have := dia_all _ p o (Nat.le_refl _) 0 l a b 0 0 vp vo (touchB_no t) ha hb
  rw [e, e] at this
  exact this
end Ab


namespace Ab
open PySem L2
theorem glue_acc {l : List Str} : ∀ {p : List Hk} {here : Int} {acc : List Str}, glue l here p acc = acc ++ glue l here p []
  | [], here, acc => by rw [glue, glue]; simp
  | h :: r, here, acc => by
    rw [glue, glue, glue_acc (acc := acc ++ cut l here h.s ++ h.c), glue_acc (acc := [] ++ cut l here h.s ++ h.c)]
    simp
theorem app_glue {l : List Str} : ∀ {p : List Hk} {here : Int}, 0 ≤ here → here ≤ l.length → valid (here - 1) p = true → app here (l.drop here.toNat) p = if p.all (fits l) = true then some (glue l here p []) else none
  | [], here, h0, h1, v => by rw [app, glue]; simp
  | h :: r, here, h0, h1, v => by
    obtain ⟨v1, v2, v3⟩ := valid_cons v
    have a1 : here.toNat + (h.s - here).toNat = h.s.toNat := by omega
    have ec : cut l h.s (h.s + h.g.length) = (l.drop h.s.toNat).take h.g.length := by unfold cut; congr 1; omega
    have e1 : (l.drop here.toNat).drop (h.s - here).toNat = l.drop h.s.toNat := by rw [List.drop_drop, a1]
    have e2 : (l.drop here.toNat).drop ((h.s - here).toNat + h.g.length) = l.drop (h.s + h.g.length).toNat := by rw [List.drop_drop]; congr 1; omega
    have e3 : (l.drop here.toNat).take (h.s - here).toNat = cut l here h.s := by unfold cut; congr 1; omega
    rw [app, e1, e2, e3, List.length_drop]
    by_cases c : (h.s - here).toNat ≤ l.length - here.toNat ∧ (l.drop h.s.toNat).take h.g.length = h.g
    · have lg := congrArg List.length c.2
      rw [List.length_take, List.length_drop] at lg
      have ft : fits l h = true := by unfold fits; rw [ec, decide_eq_true c.2, decide_eq_true (by omega)]; rfl
      rw [if_pos c, app_glue (by omega) (by omega) (valid_mono (by omega) v3), List.all_cons, ft, Bool.true_and, glue, glue_acc (acc := [] ++ cut l here h.s ++ h.c)]
      by_cases q : r.all (fits l) = true
      · rw [if_pos q, if_pos q]; simp
      · rw [if_neg q, if_neg q]; rfl
    · have ft : fits l h = false := by
        unfold fits
        rw [ec]
        by_cases q : h.s ≤ l.length
        · rw [decide_eq_true q, Bool.true_and]
          exact decide_eq_false fun z => c ⟨by omega, z⟩
        · rw [decide_eq_false q]; rfl
      rw [if_neg c, List.all_cons, ft, Bool.false_and, if_neg Bool.false_ne_true]
/-- put_on is app -/
theorem putOn_app {l : List Str} {p : List Hk} (v : valid (-1) p = true) : putOn l p = app 0 l p := by
  have := app_glue (l := l) (p := p) (here := 0) (by omega) (by omega) (by simpa using v)
  rw [show l.drop (0 : Int).toNat = l from rfl] at this
  rw [this]; rfl
end Ab


namespace Ab
open PySem L2
/-! ### turned back, commuted -/
theorem app_backF : ∀ {p : List Hk} {i m : Int} {rest a : List Str}, valid (i - 1) p = true → app i rest p = some a → app (i + m) a (backF m p) = some rest
  | [], i, m, rest, a, _, h => by rw [app] at h; cases h; rw [backF, app]
  | h :: r, i, m, rest, a, v, ha => by
    obtain ⟨v1, v2, v3⟩ := valid_cons v
    obtain ⟨z, c1, c2, c3, rfl⟩ := app_cons ha
    have lt : (rest.take (h.s - i).toNat).length = (h.s - i).toNat := by rw [List.length_take]; omega
    have ed : (h.s + m - (i + m)).toNat = (h.s - i).toNat := by congr 1; omega
    have IH := app_backF (m := m + h.c.length - h.g.length) (valid_mono (by omega) v3) c3
    have := app_of (i := i + m) (rest := rest.take (h.s - i).toNat ++ h.c ++ z) (h := ⟨h.s + m, h.c, h.g⟩) (r := backF (m + h.c.length - h.g.length) r) (z := rest.drop ((h.s - i).toNat + h.g.length))
      (by rw [ed, List.append_assoc, List.length_append, lt]; omega)
      (by show (List.drop (h.s + m - (i + m)).toNat _).take h.c.length = h.c
          rw [ed, List.append_assoc, drop_len lt, List.take_left])
      (by show app (h.s + m + (h.c.length : Nat)) (List.drop ((h.s + m - (i + m)).toNat + h.c.length) _) _ = _
          rw [ed, drop_len (show (rest.take (h.s - i).toNat ++ h.c).length = (h.s - i).toNat + h.c.length by rw [List.length_append, lt]), show h.s + m + ((h.c.length : Nat) : Int) = h.s + h.g.length + (m + h.c.length - h.g.length) by omega]
          exact IH)
    show app (i + m) _ (⟨h.s + m, h.c, h.g⟩ :: backF (m + h.c.length - h.g.length) r) = _
    rw [this]
    show some (List.take (h.s + m - (i + m)).toNat _ ++ h.g ++ _) = _
    rw [ed, List.append_assoc (rest.take _) h.c z, take_len lt]
    congr 1
    have : rest.take (h.s - i).toNat ++ h.g = rest.take ((h.s - i).toNat + h.g.length) := by rw [List.take_add, c2]
    rw [this, List.take_append_drop]
theorem app_back {l a : List Str} {p : List Hk} (v : valid (-1) p = true) (h : app 0 l p = some a) : app 0 a (back p) = some l := by
  have := app_backF (m := 0) (i := 0) (by simpa using v) h
  simpa using this
/-- s over what f turned back is, then carried over f again: s -/
theorem ovL_round {f : List Hk} (vf : valid (-1) f = true) : ∀ {s : List Hk}, (∀ h ∈ s, -1 < h.s) → (∀ h ∈ s, ∀ k ∈ back f, touch h k = false) → ovL (ovL s (back f)) f = s ∧ ∀ h ∈ ovL s (back f), ∀ k ∈ f, touch h k = false
  | [], _, _ => ⟨rfl, fun _ h => by cases h⟩
  | h :: r, q, t => by
    obtain ⟨i1, i2⟩ := ovL_round vf (s := r) (fun j hj => q j (List.mem_cons_of_mem _ hj)) (fun j hj => t j (List.mem_cons_of_mem _ hj))
    have b := back_round (h := h) (m := 0) vf (by have := q h List.mem_cons_self; omega) (t h List.mem_cons_self)
    rw [show h.s - 0 + sumB (back f) h.s = h.s + sumB (back f) h.s by omega] at b
    obtain ⟨b1, b2, b3⟩ := b
    refine ⟨?_, fun j hj k hk => ?_⟩
    · show (⟨h.s + sumB (back f) h.s + sumB f (h.s + sumB (back f) h.s), h.g, h.c⟩ : Hk) :: ovL (ovL r (back f)) f = _
      rw [i1, b2, show h.s + sumB (back f) h.s + -sumB (back f) h.s = h.s by omega]
    · rcases List.mem_cons.mp hj with z | z
      · subst z; exact b3 k hk
      · exact i2 j z k hk
/-- COMMUTED: l -f-> m -s-> n, and s does not touch f turned back: l -ahead-> z -f'-> n -/
theorem commute {l m n : List Str} {f s : List Hk} (vf : valid (-1) f = true) (vs : valid (-1) s = true) (t : touchB s (back f) = false) (hf : app 0 l f = some m) (hs : app 0 m s = some n) :
    touchB f (ovL s (back f)) = false ∧ valid (-1) (ovL s (back f)) = true ∧ valid (-1) (ovL f (ovL s (back f))) = true ∧ ∃ z, app 0 l (ovL s (back f)) = some z ∧ app 0 z (ovL f (ovL s (back f))) = some n := by
  have vb := valid_back vf
  have va := valid_carried vs vb t
  obtain ⟨r1, r2⟩ := ovL_round vf (s := s) (fun h hh => valid_gt vs h hh) (touchB_no t)
  have t2 : touchB f (ovL s (back f)) = false := touchB_of fun h hh k hk => by rw [touch_comm]; exact r2 k hk h hh
  obtain ⟨z, z1, z2⟩ := diamond vs vb t hs (app_back vf hf)
  obtain ⟨y, y1, y2⟩ := diamond vf va t2 hf z1
  rw [r1, hs] at y2
  cases y2
  exact ⟨t2, va, valid_carried vf va t2, z, z1, y1⟩
end Ab


namespace Ab
open PySem L2
theorem gsum_cons {h : Hk} {r : List Hk} : gsum (h :: r) = h.g.length + gsum r := by simp [gsum]
theorem csum_cons {h : Hk} {r : List Hk} : csum (h :: r) = h.c.length + csum r := by simp [csum]
theorem app_len : ∀ {p : List Hk} {i : Int} {rest a : List Str}, valid (i - 1) p = true → app i rest p = some a → a.length + gsum p = rest.length + csum p ∧ gsum p ≤ rest.length ∧ p.length ≤ rest.length + 1 ∧ (valid i p = true → p.length ≤ rest.length)
  | [], i, rest, a, _, h => by rw [app] at h; cases h; simp [gsum, csum]
  | h :: r, i, rest, a, v, ha => by
    obtain ⟨v1, v2, v3⟩ := valid_cons v
    obtain ⟨z, c1, c2, c3, rfl⟩ := app_cons ha
    have lg := congrArg List.length c2
    rw [List.length_take, List.length_drop] at lg
    obtain ⟨i1, i2, i3, i4⟩ := app_len (valid_mono (by omega) v3) c3
    have i4 := i4 v3
    rw [List.length_drop] at i1 i2 i3 i4
    have lt : (rest.take (h.s - i).toNat).length = (h.s - i).toNat := by rw [List.length_take]; omega
    rw [List.length_append, List.length_append, lt, gsum_cons, csum_cons]
    refine ⟨by omega, by omega, by rw [List.length_cons]; omega, fun q => ?_⟩
    obtain ⟨w1, _, _⟩ := valid_cons q
    rw [List.length_cons]; omega
end Ab


namespace Ab
open PySem L2
/-! ### joined, plainly -/
def Sepd : Int → List (Int × Int) → Prop
  | _, [] => True
  | e, q :: r => e < q.1 ∧ q.1 ≤ q.2 ∧ Sepd q.2 r
def InS (h : Hk) (q : Int × Int) : Prop := q.1 ≤ h.s ∧ h.s + h.g.length ≤ q.2
theorem Sepd.gt : ∀ {Q : List (Int × Int)} {e : Int}, Sepd e Q → ∀ q ∈ Q, e < q.1 ∧ q.1 ≤ q.2
  | [], _, _, q, h => by cases h
  | z :: r, e, v, q, h => by
    obtain ⟨h1, h2, h3⟩ := v
    rcases List.mem_cons.mp h with x | x
    · rw [x]; exact ⟨h1, h2⟩
    · have := Sepd.gt h3 q x; exact ⟨by omega, this.2⟩
theorem within_none {lo hi e : Int} (he : e < lo) : ∀ {p : List Hk}, (∀ h ∈ p, h.s + h.g.length ≤ e) → withinF p lo hi = [] := fun {p} h => by
  unfold withinF
  rw [List.filter_eq_nil_iff]
  intro k hk
  have := h k hk
  have : ¬ lo ≤ k.s := by omega
  simp [this]
theorem within_app {p o : List Hk} {lo hi : Int} : withinF (p ++ o) lo hi = withinF p lo hi ++ withinF o lo hi := by unfold withinF; rw [List.filter_append]
theorem within_split {z : Int × Int} {Q : List (Int × Int)} (sq : Sepd z.2 Q) : ∀ {p : List Hk} {e : Int}, valid e p = true → (∀ h ∈ p, ∃ q ∈ z :: Q, InS h q) →
    ∃ p2, p = withinF p z.1 z.2 ++ p2 ∧ (∀ h ∈ p2, ∃ q ∈ Q, InS h q) ∧ (∀ h ∈ p2, z.2 < h.s)
  | [], e, _, _ => ⟨[], rfl, (fun _ h => nomatch h), (fun _ h => nomatch h)⟩
  | h :: r, e, v, hi => by
    obtain ⟨v1, v2, v3⟩ := valid_cons v
    obtain ⟨q, q1, q2⟩ := hi h List.mem_cons_self
    rcases List.mem_cons.mp q1 with x | x
    · subst x
      obtain ⟨p2, e1, e2, e3⟩ := within_split sq v3 fun k hk => hi k (List.mem_cons_of_mem _ hk)
      refine ⟨p2, ?_, e2, e3⟩
      have : withinF (h :: r) q.1 q.2 = h :: withinF r q.1 q.2 := by
        unfold withinF
        rw [List.filter_cons_of_pos (by simp [q2.1, q2.2])]
      rw [this, List.cons_append, ← e1]
    · have g0 := (sq.gt q x).1
      have gt : ∀ k ∈ h :: r, z.2 < k.s := fun k hk => by
        rcases List.mem_cons.mp hk with y | y
        · rw [y]; have := q2.1; omega
        · have := valid_gt v3 k y; have := q2.1; omega
      refine ⟨h :: r, ?_, fun k hk => ?_, gt⟩
      · have : withinF (h :: r) z.1 z.2 = [] := by
          unfold withinF
          rw [List.filter_eq_nil_iff]
          intro k hk
          have := gt k hk
          have : ¬ k.s + (k.g.length : Nat) ≤ z.2 := by omega
          simp [this]
        rw [this]; rfl
      · obtain ⟨y, y1, y2⟩ := hi k hk
        rcases List.mem_cons.mp y1 with w | w
        · subst w; have := gt k hk; have := y2.2; omega
        · exact ⟨y, w, y2⟩
theorem app_split {high : Int} {p2 : List Hk} (h2 : ∀ h ∈ p2, high ≤ h.s) : ∀ {p1 : List Hk} {i low e : Int} {rest x : List Str}, valid e p1 = true → i ≤ low → low ≤ high → high - i ≤ rest.length → (∀ h ∈ p1, InS h (low, high)) → app i rest (p1 ++ p2) = some x →
    ∃ X y, app low ((rest.drop (low - i).toNat).take (high - low).toNat) p1 = some X ∧ app high (rest.drop (high - i).toNat) p2 = some y ∧ x = rest.take (low - i).toNat ++ X ++ y
  | [], i, low, e, rest, x, v, a1, a2, a3, _, ha => by
    have er : rest = (rest.take (low - i).toNat ++ (rest.drop (low - i).toNat).take (high - low).toNat) ++ rest.drop (high - i).toNat := by
      have e1 : (high - i).toNat = (low - i).toNat + (high - low).toNat := by omega
      rw [← List.take_add, ← e1, List.take_append_drop]
    rw [List.nil_append] at ha
    conv at ha => lhs; rw [er]
    rw [app_skip (j := high) (by omega) (by rw [List.length_append, List.length_take, List.length_take, List.length_drop]; omega) fun h r q => h2 h (by rw [q]; exact List.mem_cons_self)] at ha
    cases hq : app high (rest.drop (high - i).toNat) p2 with
    | none => rw [hq] at ha; cases ha
    | some y =>
      rw [hq] at ha
      exact ⟨_, y, rfl, rfl, (Option.some.inj ha).symm⟩
  | h :: r, i, low, e, rest, x, v, a1, a2, a3, hi, ha => by
    obtain ⟨v1, v2, v3⟩ := valid_cons v
    obtain ⟨b1, b2⟩ := hi h List.mem_cons_self
    have b1 : low ≤ h.s := b1
    have b2 : h.s + (h.g.length : Nat) ≤ high := b2
    rw [List.cons_append] at ha
    obtain ⟨z, c1, c2, c3, rfl⟩ := app_cons ha
    have IH := app_split h2 (p1 := r) (i := h.s + h.g.length) (low := h.s + h.g.length) (rest := rest.drop ((h.s - i).toNat + h.g.length)) v3 (Int.le_refl _) b2 (by rw [List.length_drop]; omega) (fun k hk => ⟨by have := valid_gt v3 k hk; show h.s + (h.g.length : Nat) ≤ k.s; omega, (hi k (List.mem_cons_of_mem _ hk)).2⟩) c3
    obtain ⟨X, y, d1, d2, d3⟩ := IH
    have e0 : (h.s + (h.g.length : Nat) - (h.s + (h.g.length : Nat))).toNat = 0 := by omega
    rw [e0, List.drop_zero] at d1
    rw [e0, List.take_zero, List.nil_append] at d3
    subst d3
    rw [List.drop_drop, show (h.s - i).toNat + h.g.length + (high - (h.s + (h.g.length : Nat))).toNat = (high - i).toNat by omega] at d2
    have dM : ∀ k : Nat, ((rest.drop (low - i).toNat).take (high - low).toNat).drop k = (rest.drop ((low - i).toNat + k)).take ((high - low).toNat - k) := fun k => by rw [List.drop_take, List.drop_drop]
    have s1 : (low - i).toNat + (h.s - low).toNat = (h.s - i).toNat := by omega
    refine ⟨_, y, app_of (z := X) ?_ ?_ ?_, d2, ?_⟩
    · rw [List.length_take, List.length_drop]; omega
    · rw [dM, s1, List.take_take, Nat.min_eq_left (by omega)]
      exact c2
    · rw [dM, ← Nat.add_assoc, s1]
      rw [show (high - low).toNat - ((h.s - low).toNat + h.g.length) = (high - (h.s + (h.g.length : Nat))).toNat by omega]
      exact d1
    · have : rest.take (h.s - i).toNat = rest.take (low - i).toNat ++ ((rest.drop (low - i).toNat).take (high - low).toNat).take (h.s - low).toNat := by
        rw [List.take_take, Nat.min_eq_left (by omega), ← List.take_add, s1]
      rw [this]
      simp
theorem app_fit : ∀ {p : List Hk} {i : Int} {rest x : List Str}, valid (i - 1) p = true → app i rest p = some x → ∀ h ∈ p, (rest.drop (h.s - i).toNat).take h.g.length = h.g
  | [], _, _, _, _, _, h, hh => by cases hh
  | k :: r, i, rest, x, v, ha, h, hh => by
    obtain ⟨v1, v2, v3⟩ := valid_cons v
    obtain ⟨z, c1, c2, c3, _⟩ := app_cons ha
    rcases List.mem_cons.mp hh with y | y
    · rw [y]; exact c2
    · have := app_fit (valid_mono (by omega) v3) c3 h y
      have g := valid_gt v3 h y
      rw [List.drop_drop, show (k.s - i).toNat + k.g.length + (h.s - (k.s + (k.g.length : Nat))).toNat = (h.s - i).toNat by omega] at this
      exact this
/-! ### the lines of a span -/
structure Agree (f : List (Option Str)) (M : List Str) : Prop where
  l : f.length = M.length
  a : ∀ (j : Nat) (s : Str), f[j]? = some (some s) → M[j]? = some s
theorem lay_agree {M : List Str} : ∀ {g : List Str} {f : List (Option Str)} {i : Nat}, Agree f M → (M.drop i).take g.length = g → i + g.length ≤ M.length →
    ∃ f', lay f i g = some f' ∧ Agree f' M ∧ (∀ (j : Nat) (s : Str), f[j]? = some (some s) → ∃ t, f'[j]? = some (some t)) ∧ ∀ j : Nat, i ≤ j → j < i + g.length → ∃ t, f'[j]? = some (some t)
  | [], f, i, ag, _, _ => ⟨f, rfl, ag, fun j s h => ⟨s, h⟩, fun j h1 h2 => by simp at h2; omega⟩
  | s :: r, f, i, ag, hg, hl => by
    rw [List.length_cons] at hg hl
    have hi : i < M.length := by omega
    have e1 : M.drop i = M[i] :: M.drop (i + 1) := List.drop_eq_getElem_cons hi
    rw [e1, List.take_succ_cons] at hg
    injection hg with g1 g2
    have hM : M[i]? = some s := by rw [List.getElem?_eq_getElem hi, g1]
    have ag2 : Agree (f.set i (some s)) M := ⟨by rw [List.length_set]; exact ag.l, fun j t h => by
      rw [List.getElem?_set] at h
      by_cases q : i = j
      · subst q
        rw [if_pos rfl] at h
        split at h
        · cases h; exact hM
        · cases h
      · rw [if_neg q] at h; exact ag.a j t h⟩
    obtain ⟨f', l1, l2, l3, l4⟩ := lay_agree (g := r) (i := i + 1) ag2 g2 (by omega)
    have hf : i < f.length := by rw [ag.l]; exact hi
    have set_i : (f.set i (some s))[i]? = some (some s) := by simp [hf]
    refine ⟨f', ?_, l2, fun j t h => ?_, fun j h1 h2 => ?_⟩
    · rw [lay]
      cases q : f[i]? with
      | none => rw [List.getElem?_eq_none_iff] at q; omega
      | some o =>
        cases o with
        | none => exact l1
        | some t =>
          have : t = s := by have := ag.a i t q; rw [hM] at this; exact (Option.some.inj this).symm
          subst this
          simp only [if_true]
          exact l1
    · by_cases q : i = j
      · subst q; exact l3 _ _ set_i
      · exact l3 j t (by rw [List.getElem?_set, if_neg q]; exact h)
    · by_cases q : i = j
      · subst q; exact l3 _ _ set_i
      · exact l4 j (by omega) (by rw [List.length_cons] at h2; omega)
theorem layH_agree {M : List Str} {lo : Int} : ∀ {hs : List Hk} {f : List (Option Str)}, Agree f M → (∀ h ∈ hs, lo ≤ h.s ∧ (M.drop (h.s - lo).toNat).take h.g.length = h.g ∧ (h.s - lo).toNat + h.g.length ≤ M.length) →
    ∃ f', layH f lo hs = some f' ∧ Agree f' M ∧ (∀ (j : Nat) (s : Str), f[j]? = some (some s) → ∃ t, f'[j]? = some (some t)) ∧ ∀ h ∈ hs, ∀ j : Nat, (h.s - lo).toNat ≤ j → j < (h.s - lo).toNat + h.g.length → ∃ t, f'[j]? = some (some t)
  | [], f, ag, _ => ⟨f, rfl, ag, fun j s h => ⟨s, h⟩, fun _ h => by cases h⟩
  | h :: r, f, ag, hh => by
    obtain ⟨q0, q1, q2⟩ := hh h List.mem_cons_self
    obtain ⟨f1, a1, a2, a3, a4⟩ := lay_agree ag q1 q2
    obtain ⟨f2, b1, b2, b3, b4⟩ := layH_agree a2 fun k hk => hh k (List.mem_cons_of_mem _ hk)
    refine ⟨f2, ?_, b2, fun j s q => ?_, fun k hk j j1 j2 => ?_⟩
    · rw [layH, a1]; exact b1
    · obtain ⟨t, ht⟩ := a3 j s q; exact b3 j t ht
    · rcases List.mem_cons.mp hk with y | y
      · subst y
        obtain ⟨t, ht⟩ := a4 j j1 j2
        exact b3 j t ht
      · exact b4 k y j j1 j2
theorem agree_all {f : List (Option Str)} {M : List Str} (ag : Agree f M) (h : ∀ j : Nat, j < M.length → ∃ t, f[j]? = some (some t)) : f = M.map some := by
  refine List.ext_getElem? fun j => ?_
  rw [List.getElem?_map]
  by_cases hj : j < M.length
  · obtain ⟨t, ht⟩ := h j hj
    rw [ht, ag.a j t ht]; rfl
  · rw [List.getElem?_eq_none (by rw [ag.l]; omega), List.getElem?_eq_none (by omega)]; rfl
theorem agree0 {M : List Str} {n : Nat} (h : n = M.length) : Agree (List.replicate n none) M := ⟨by rw [List.length_replicate]; exact h, fun j s q => by
  rw [List.getElem?_replicate] at q
  split at q <;> cases q⟩
theorem glueD_app {M : List Str} {lo : Int} : ∀ {p : List Hk} {here : Int} {acc : List D} {X : List Str}, 0 ≤ here → valid (lo + here - 1) p = true → app (lo + here) (M.drop here.toNat) p = some X → glueD (M.map D.str) lo here p acc = acc ++ X.map D.str
  | [], here, acc, X, _, _, ha => by
    rw [app] at ha; cases ha
    rw [glueD, List.map_drop]
  | h :: r, here, acc, X, h0, v, ha => by
    obtain ⟨v1, v2, v3⟩ := valid_cons v
    obtain ⟨z, c1, c2, c3, rfl⟩ := app_cons ha
    have e1 : (h.s - (lo + here)).toNat = (h.s - lo).toNat - here.toNat := by omega
    have := glueD_app (M := M) (lo := lo) (p := r) (here := h.s - lo + h.g.length) (acc := acc ++ cut (M.map D.str) here (h.s - lo) ++ h.c.map D.str) (X := z) (by omega) (by rw [show lo + (h.s - lo + (h.g.length : Nat)) - 1 = h.s + (h.g.length : Nat) - 1 by omega]; exact valid_mono (by omega) v3) (by
      rw [show lo + (h.s - lo + (h.g.length : Nat)) = h.s + (h.g.length : Nat) by omega]
      rw [List.drop_drop, show here.toNat + ((h.s - (lo + here)).toNat + h.g.length) = (h.s - lo + (h.g.length : Nat)).toNat by omega] at c3
      exact c3)
    rw [glueD, this, List.map_append, List.map_append, List.map_take, List.map_drop, e1]
    unfold cut
    simp
/-! ### merged spans -/
def mg : Int × Int → List (Int × Int) → List (Int × Int)
  | z, [] => [z]
  | z, q :: r => if q.1 ≤ z.2 then mg (z.1, if q.2 > z.2 then q.2 else z.2) r else z :: mg q r
theorem mergeS_mg : ∀ {r acc : List (Int × Int)} {z : Int × Int}, mergeS (acc ++ [z]) r = acc ++ mg z r
  | [], acc, z => by rw [mergeS, mg]
  | q :: r, acc, z => by
    rw [mergeS_snoc, mg]
    split
    · exact mergeS_mg
    · rw [mergeS_mg]; simp
structure MgOk (e : Int) (ms out : List (Int × Int)) : Prop where
  sep : Sepd e out
  ins : ∀ q ∈ ms, ∃ y ∈ out, y.1 ≤ q.1 ∧ q.2 ≤ y.2
  cov : ∀ y ∈ out, ∀ j, y.1 ≤ j → j < y.2 → ∃ q ∈ ms, q.1 ≤ j ∧ j < q.2
  top : ∀ y ∈ out, ∃ q ∈ ms, y.2 = q.2
theorem mg_ok : ∀ {r : List (Int × Int)} {z : Int × Int} {e : Int}, e < z.1 → z.1 ≤ z.2 → (∀ q ∈ r, q.1 ≤ q.2) → (∀ q ∈ r, z.1 ≤ q.1) → r.Pairwise (fun a b => a.1 ≤ b.1) → MgOk e (z :: r) (mg z r)
  | [], z, e, h1, h2, _, _, _ => by
    rw [mg]
    exact ⟨⟨h1, h2, trivial⟩, fun q hq => ⟨z, List.mem_cons_self, by rw [List.mem_singleton.mp hq]; omega, by rw [List.mem_singleton.mp hq]; omega⟩, fun y hy j j1 j2 => ⟨z, List.mem_cons_self, by rw [List.mem_singleton.mp hy] at j1; exact j1, by rw [List.mem_singleton.mp hy] at j2; exact j2⟩, fun y hy => ⟨z, List.mem_cons_self, by rw [List.mem_singleton.mp hy]⟩⟩
  | q :: r, z, e, h1, h2, h3, h4, h5 => by
    obtain ⟨p1, p2⟩ := List.pairwise_cons.mp h5
    have q1 := h3 q List.mem_cons_self
    have q2 := h4 q List.mem_cons_self
    rw [mg]
    by_cases c : q.1 ≤ z.2
    · rw [if_pos c]
      generalize hw : (if q.2 > z.2 then q.2 else z.2) = w
      have w1 : z.2 ≤ w ∧ q.2 ≤ w ∧ (w = z.2 ∨ w = q.2) := by rw [← hw]; split <;> omega
      obtain ⟨s, i, c', t⟩ := mg_ok (r := r) (z := (z.1, w)) h1 (show z.1 ≤ w by omega) (fun y hy => h3 y (List.mem_cons_of_mem _ hy)) (fun y hy => h4 y (List.mem_cons_of_mem _ hy)) p2
      obtain ⟨y0, y1, y2, y3⟩ := i (z.1, w) List.mem_cons_self
      have y2 : y0.1 ≤ z.1 := y2
      have y3 : w ≤ y0.2 := y3
      refine ⟨s, fun x hx => ?_, fun y hy j j1 j2 => ?_, fun y hy => ?_⟩
      · rcases List.mem_cons.mp hx with rfl | hx
        · exact ⟨y0, y1, y2, by omega⟩
        · rcases List.mem_cons.mp hx with rfl | hx
          · exact ⟨y0, y1, by omega, by omega⟩
          · exact i x (List.mem_cons_of_mem _ hx)
      · obtain ⟨x, x1, x2, x3⟩ := c' y hy j j1 j2
        rcases List.mem_cons.mp x1 with rfl | x1
        · have x2 : z.1 ≤ j := x2
          have x3 : j < w := x3
          by_cases d : j < z.2
          · exact ⟨z, List.mem_cons_self, x2, d⟩
          · exact ⟨q, List.mem_cons_of_mem _ List.mem_cons_self, by omega, by omega⟩
        · exact ⟨x, List.mem_cons_of_mem _ (List.mem_cons_of_mem _ x1), x2, x3⟩
      · obtain ⟨x, x1, x2⟩ := t y hy
        rcases List.mem_cons.mp x1 with rfl | x1
        · have x2 : y.2 = w := x2
          rcases w1.2.2 with d | d
          · exact ⟨z, List.mem_cons_self, by omega⟩
          · exact ⟨q, List.mem_cons_of_mem _ List.mem_cons_self, by omega⟩
        · exact ⟨x, List.mem_cons_of_mem _ (List.mem_cons_of_mem _ x1), x2⟩
    · rw [if_neg c]
      obtain ⟨s, i, c', t⟩ := mg_ok (r := r) (z := q) (e := z.2) (by omega) q1 (fun y hy => h3 y (List.mem_cons_of_mem _ hy)) p1 p2
      refine ⟨⟨h1, h2, s⟩, fun x hx => ?_, fun y hy j j1 j2 => ?_, fun y hy => ?_⟩
      · rcases List.mem_cons.mp hx with rfl | hx
        · exact ⟨x, List.mem_cons_self, by omega, by omega⟩
        · obtain ⟨y, y1, y2⟩ := i x hx
          exact ⟨y, List.mem_cons_of_mem _ y1, y2⟩
      · rcases List.mem_cons.mp hy with rfl | hy
        · exact ⟨y, List.mem_cons_self, j1, j2⟩
        · obtain ⟨x, x1, x2⟩ := c' y hy j j1 j2
          exact ⟨x, List.mem_cons_of_mem _ x1, x2⟩
      · rcases List.mem_cons.mp hy with rfl | hy
        · exact ⟨y, List.mem_cons_self, rfl⟩
        · obtain ⟨x, x1, x2⟩ := t y hy
          exact ⟨x, List.mem_cons_of_mem _ x1, x2⟩
end Ab


namespace Ab
open PySem L2
theorem adv_pre {f b br : List Hk} {low : Int} (hfb : ∀ (j : Nat) (k : Hk), b[j]? = some k → ∃ h, f[j]? = some h ∧ h.c = k.g ∧ h.g = k.c) (hbr : ∀ h r, br = h :: r → ¬ h.s < low) : ∀ {bp bd : List Hk} {m : Int} {n : Nat}, b = bd ++ bp ++ br → (∀ h ∈ bp, h.s < low) → n = bp.length + br.length →
    adv f b low n m bd.length = (m + (gsum bp : Nat) - (csum bp : Nat), bd.length + bp.length)
  | [], bd, m, n, hb, _, hn => by
    have e0 : (m + ((gsum [] : Nat) : Int) - ((csum [] : Nat) : Int), bd.length + ([] : List Hk).length) = (m, bd.length) := by simp [gsum, csum]
    rw [e0]
    cases br with
    | nil => simp at hn; subst hn; rw [adv]
    | cons h r =>
      have hat : b[bd.length]? = some h := by rw [hb]; simp
      obtain ⟨k, k1, k2, k3⟩ := hfb _ _ hat
      have : n = r.length + 1 := by simpa using hn
      subst this
      rw [adv, hat, k1]
      simp only [hbr h r rfl, if_false]
  | h :: bp, bd, m, n, hb, hp, hn => by
    have hat : b[bd.length]? = some h := by rw [hb]; simp
    obtain ⟨k, k1, k2, k3⟩ := hfb _ _ hat
    have hn2 : n = (bp.length + br.length) + 1 := by rw [hn, List.length_cons]; omega
    subst hn2
    rw [adv, hat, k1]
    simp only [hp h List.mem_cons_self, if_true]
    have IH := adv_pre (f := f) (b := b) (br := br) (low := low) hfb hbr (bp := bp) (bd := bd ++ [h]) (m := m + ((k.c.length : Nat) - (k.g.length : Nat))) (n := bp.length + br.length) (by rw [hb]; simp) (fun x hx => hp x (List.mem_cons_of_mem _ hx)) rfl
    rw [List.length_append, List.length_singleton] at IH
    rw [IH, gsum_cons, csum_cons, k2, k3, List.length_cons]
    refine Prod.ext ?_ ?_
    · simp only []; omega
    · simp only []; omega
theorem valid_left {b : List Hk} : ∀ {a : List Hk} {e : Int}, valid e (a ++ b) = true → valid e a = true
  | [], _, _ => rfl
  | h :: r, e, v => by
    obtain ⟨v1, v2, v3⟩ := valid_cons v
    exact valid_of v1 v2 (valid_left v3)
theorem valid_right {b : List Hk} {x : Int} (hx : ∀ h ∈ b, x < h.s) : ∀ {a : List Hk} {e : Int}, valid e (a ++ b) = true → valid x b = true
  | [], e, v => by
    cases b with
    | nil => rfl
    | cons h r =>
      obtain ⟨v1, v2, v3⟩ := valid_cons v
      exact valid_of (hx h List.mem_cons_self) v2 v3
  | h :: r, e, v => by
    obtain ⟨v1, v2, v3⟩ := valid_cons v
    exact valid_right hx v3
theorem join_main {f b s : List Hk} (hfb : ∀ (j : Nat) (k : Hk), b[j]? = some k → ∃ h, f[j]? = some h ∧ h.c = k.g ∧ h.g = k.c) : ∀ (Q : List (Int × Int)) (e p mv0 : Int) (bd bp br sd sr : List Hk) (acc : List D) (rest lx nx : List Str),
    b = bd ++ bp ++ br → s = sd ++ sr → (∀ h ∈ bd ++ bp, h.s + h.g.length ≤ e) → (∀ h ∈ sd, h.s + h.g.length ≤ e) → valid e br = true → valid e sr = true →
    (∀ h ∈ br, ∃ q ∈ Q, InS h q) → (∀ h ∈ sr, ∃ q ∈ Q, InS h q) → Sepd e Q → (∀ q ∈ Q, ∀ j, q.1 ≤ j → j < q.2 → ∃ h ∈ br ++ sr, h.s ≤ j ∧ j < h.s + h.g.length) → (∀ q ∈ Q, q.2 - p ≤ rest.length) → e ≤ p → p ≤ e + 1 →
    app p rest br = some lx → app p rest sr = some nx →
    ∃ J, joinD f b s Q mv0 bd.length acc = some (acc ++ J.map hkD) ∧ valid (e - (mv0 + (gsum bp : Nat) - (csum bp : Nat))) J = true ∧ app (p - (mv0 + (gsum bp : Nat) - (csum bp : Nat))) lx J = some nx
  | [], e, p, mv0, bd, bp, br, sd, sr, acc, rest, lx, nx, hb, hs, hbe, hse, vb, vs, ib, is, sq, cov, len, p1, p2, al, an => by
    have e1 : br = [] := by
      cases br with
      | nil => rfl
      | cons h r => obtain ⟨q, hq, _⟩ := ib h List.mem_cons_self; cases hq
    have e2 : sr = [] := by
      cases sr with
      | nil => rfl
      | cons h r => obtain ⟨q, hq, _⟩ := is h List.mem_cons_self; cases hq
    subst e1; subst e2
    rw [app] at al an
    cases al; cases an
    exact ⟨[], by rw [joinD]; simp, rfl, by rw [app]⟩
  | q :: Q, e, p, mv0, bd, bp, br, sd, sr, acc, rest, lx, nx, hb, hs, hbe, hse, vb, vs, ib, is, sq, cov, len, p1, p2, al, an => by
    obtain ⟨s1, s2, s3⟩ := sq
    obtain ⟨br', b1, b2, b3⟩ := within_split s3 vb ib
    obtain ⟨sr', c1, c2, c3⟩ := within_split s3 vs is
    have wb : withinF b q.1 q.2 = withinF br q.1 q.2 := by rw [hb, within_app, within_none s1 hbe, List.nil_append]
    have ws : withinF s q.1 q.2 = withinF sr q.1 q.2 := by rw [hs, within_app, within_none s1 hse, List.nil_append]
    have ob : ∀ h ∈ withinF br q.1 q.2, InS h (q.1, q.2) := fun h hh => (within_at hh).2
    have os : ∀ h ∈ withinF sr q.1 q.2, InS h (q.1, q.2) := fun h hh => (within_at hh).2
    generalize hB : withinF br q.1 q.2 = B1 at *
    generalize hS : withinF sr q.1 q.2 = S1 at *
    rw [b1] at vb al
    rw [c1] at vs an
    have vB := valid_left vb
    have vS := valid_left vs
    have lq : q.2 - p ≤ rest.length := len q List.mem_cons_self
    obtain ⟨O, ly, o1, o2, o3⟩ := app_split (fun h hh => by have := b3 h hh; omega) vB (by omega) s2 lq ob al
    obtain ⟨N, ny, n1, n2, n3⟩ := app_split (fun h hh => by have := c3 h hh; omega) vS (by omega) s2 lq os an
    generalize hM : (rest.drop (q.1 - p).toNat).take (q.2 - q.1).toNat = M at *
    have lM : M.length = (q.2 - q.1).toNat := by rw [← hM, List.length_take, List.length_drop]; omega
    have vB1 : valid (q.1 - 1) B1 = true := valid_right (a := []) (fun h hh => by have := (ob h hh).1; have : q.1 ≤ h.s := this; omega) vB
    have vS1 : valid (q.1 - 1) S1 = true := valid_right (a := []) (fun h hh => by have := (os h hh).1; have : q.1 ≤ h.s := this; omega) vS
    have fB := app_fit vB1 o1
    have fS := app_fit vS1 n1
    have fit : ∀ h ∈ B1 ++ S1, q.1 ≤ h.s ∧ (M.drop (h.s - q.1).toNat).take h.g.length = h.g ∧ (h.s - q.1).toNat + h.g.length ≤ M.length := fun h hh => by
      rcases List.mem_append.mp hh with z | z
      · obtain ⟨y1, y2⟩ := ob h z
        have y1 : q.1 ≤ h.s := y1
        have y2 : h.s + (h.g.length : Nat) ≤ q.2 := y2
        exact ⟨y1, fB h z, by omega⟩
      · obtain ⟨y1, y2⟩ := os h z
        have y1 : q.1 ≤ h.s := y1
        have y2 : h.s + (h.g.length : Nat) ≤ q.2 := y2
        exact ⟨y1, fS h z, by omega⟩
    obtain ⟨F, l1, l2, _, l4⟩ := layH_agree (M := M) (lo := q.1) (hs := B1 ++ S1) (f := List.replicate (q.2 - q.1).toNat none) (agree0 lM.symm) fit
    have hF : F = M.map some := agree_all l2 fun j hj => by
      obtain ⟨h, h1, h2, h3⟩ := cov q List.mem_cons_self (q.1 + (j : Int)) (by omega) (by omega)
      have hin : h ∈ B1 ++ S1 := by
        rcases List.mem_append.mp h1 with z | z
        · rw [b1] at z
          rcases List.mem_append.mp z with z | z
          · exact List.mem_append_left _ z
          · have := b3 h z; omega
        · rw [c1] at z
          rcases List.mem_append.mp z with z | z
          · exact List.mem_append_right _ z
          · have := c3 h z; omega
      have := (fit h hin).1
      exact l4 h hin j (by omega) (by omega)
    have eo : (F.map optS) = M.map D.str := by rw [hF, List.map_map]; rfl
    have gO : glueD (F.map optS) q.1 0 B1 [] = O.map D.str := by
      rw [eo, glueD_app (X := O) (Int.le_refl 0) (by rw [Int.add_zero]; exact vB1) (by rw [Int.add_zero]; exact o1), List.nil_append]
    have gN : glueD (F.map optS) q.1 0 S1 [] = N.map D.str := by
      rw [eo, glueD_app (X := N) (Int.le_refl 0) (by rw [Int.add_zero]; exact vS1) (by rw [Int.add_zero]; exact n1), List.nil_append]
    have ea : adv f b q.1 (b.length - bd.length) mv0 bd.length = (mv0 + (gsum bp : Nat) - (csum bp : Nat), bd.length + bp.length) := by
      refine adv_pre hfb (br := br) (fun h r e => ?_) hb (fun h hh => ?_) (by rw [hb]; simp [Nat.add_comm, Nat.add_assoc, Nat.add_left_comm])
      · obtain ⟨y, y1, y2⟩ := ib h (by rw [e]; exact List.mem_cons_self)
        have y2 := y2.1
        rcases List.mem_cons.mp y1 with z | z
        · rw [z] at y2; omega
        · have := (s3.gt y z).1; omega
      · have := hbe h (List.mem_append_right _ hh); omega
    generalize hmv : mv0 + ((gsum bp : Nat) : Int) - ((csum bp : Nat) : Int) = mv at *
    obtain ⟨lO, _⟩ := app_len vB1 o1
    have IH : ∀ acc', ∃ J, joinD f b s Q mv (bd ++ bp).length acc' = some (acc' ++ J.map hkD) ∧ valid (q.2 - (mv + (gsum B1 : Nat) - (csum B1 : Nat))) J = true ∧ app (q.2 - (mv + (gsum B1 : Nat) - (csum B1 : Nat))) ly J = some ny := fun acc' => by
      refine join_main hfb Q q.2 q.2 mv (bd ++ bp) B1 br' (sd ++ S1) sr' acc' (rest.drop (q.2 - p).toNat) ly ny (by rw [hb, b1]; simp) (by rw [hs, c1]; simp) (fun h hh => ?_) (fun h hh => ?_) (valid_right b3 vb) (valid_right c3 vs) b2 c2 s3 (fun y hy j j1 j2 => ?_) (fun y hy => ?_) (Int.le_refl _) (by omega) o2 n2
      · rcases List.mem_append.mp hh with z | z
        · have := hbe h z; omega
        · exact (ob h z).2
      · rcases List.mem_append.mp hh with z | z
        · have := hse h z; omega
        · exact (os h z).2
      · obtain ⟨h, h1, h2, h3⟩ := cov y (List.mem_cons_of_mem _ hy) j j1 j2
        have gy := (s3.gt y hy).1
        refine ⟨h, ?_, h2, h3⟩
        rcases List.mem_append.mp h1 with z | z
        · rw [b1] at z
          rcases List.mem_append.mp z with z | z
          · have : h.s + (h.g.length : Nat) ≤ q.2 := (ob h z).2
            omega
          · exact List.mem_append_left _ z
        · rw [c1] at z
          rcases List.mem_append.mp z with z | z
          · have : h.s + (h.g.length : Nat) ≤ q.2 := (os h z).2
            omega
          · exact List.mem_append_right _ z
      · have := len y (List.mem_cons_of_mem _ hy)
        have := (s3.gt y hy)
        rw [List.length_drop]; omega
    rw [joinD, wb, ws, l1]
    simp only []
    rw [ea, gO, gN]
    simp only []
    rw [show same (.tup (O.map D.str)) (.tup (N.map D.str)) = decide (O = N) from same_strs]
    rw [List.length_append] at IH
    have lt : (rest.take (q.1 - p).toNat).length = (q.1 - p).toNat := by rw [List.length_take]; omega
    have eq2 : q.2 - (mv + ((gsum B1 : Nat) : Int) - ((csum B1 : Nat) : Int)) = q.1 - mv + (O.length : Nat) := by omega
    rw [eq2] at IH
    by_cases hON : O = N
    · rw [decide_eq_true hON]
      obtain ⟨J, j1, j2, j3⟩ := IH acc
      refine ⟨J, j1, valid_mono (by omega) j2, ?_⟩
      rw [o3, n3, ← hON, app_skip (j := q.1 - mv + (O.length : Nat)) (by omega) (by rw [List.length_append, lt]; omega) (fun h r e => by have := valid_gt j2 h (by rw [e]; exact List.mem_cons_self); omega), j3]
      rfl
    · rw [decide_eq_false hON]
      obtain ⟨J, j1, j2, j3⟩ := IH (acc ++ [.tup [.int (q.1 - mv), .tup (O.map D.str), .tup (N.map D.str)]])
      refine ⟨⟨q.1 - mv, O, N⟩ :: J, ?_, valid_of (show e - mv < q.1 - mv by omega) hON j2, ?_⟩
      · show joinD f b s Q mv (bd.length + bp.length) (acc ++ [.tup [.int (q.1 - mv), .tup (O.map D.str), .tup (N.map D.str)]]) = _
        rw [j1]
        simp [hkD, strsD]
      · have es : (q.1 - mv - (p - mv)).toNat = (q.1 - p).toNat := by congr 1; omega
        have := app_of (i := p - mv) (rest := lx) (h := ⟨q.1 - mv, O, N⟩) (r := J) (z := ny) (by show (q.1 - mv - (p - mv)).toNat ≤ _; rw [es, o3, List.length_append, List.length_append, lt]; omega)
          (by show (lx.drop (q.1 - mv - (p - mv)).toNat).take O.length = O; rw [es, o3, List.append_assoc, drop_len lt, List.take_left])
          (by show app (q.1 - mv + (O.length : Nat)) (lx.drop ((q.1 - mv - (p - mv)).toNat + O.length)) J = _
              rw [es, o3, drop_len (by rw [List.length_append, lt])]; exact j3)
        rw [this, n3]
        show some (lx.take (q.1 - mv - (p - mv)).toNat ++ N ++ ny) = _
        rw [es, o3, List.append_assoc (rest.take _) O ly, take_len lt]
end Ab


namespace Ab
open PySem L2
/-! ### the joined patch -/
theorem backF_get {k : Hk} : ∀ {p : List Hk} {m : Int} {j : Nat}, (backF m p)[j]? = some k → ∃ h, p[j]? = some h ∧ h.c = k.g ∧ h.g = k.c
  | [], m, j, h => by rw [backF] at h; simp at h
  | h :: r, m, 0, e => by
    rw [backF] at e
    simp at e
    subst e
    exact ⟨h, rfl, rfl, rfl⟩
  | h :: r, m, j + 1, e => by
    rw [backF] at e
    simp only [List.getElem?_cons_succ] at e ⊢
    exact backF_get e
theorem app_in : ∀ {p : List Hk} {i : Int} {rest x : List Str}, valid (i - 1) p = true → app i rest p = some x → ∀ h ∈ p, h.s + h.g.length - i ≤ rest.length
  | [], _, _, _, _, _, h, hh => by cases hh
  | k :: r, i, rest, x, v, ha, h, hh => by
    obtain ⟨v1, v2, v3⟩ := valid_cons v
    obtain ⟨z, c1, c2, c3, _⟩ := app_cons ha
    have lg := congrArg List.length c2
    rw [List.length_take, List.length_drop] at lg
    rcases List.mem_cons.mp hh with y | y
    · rw [y]; omega
    · have := app_in (valid_mono (by omega) v3) c3 h y
      rw [List.length_drop] at this
      omega
theorem mergeS_ok {ms : List (Int × Int)} {e : Int} (h1 : ∀ q ∈ ms, e < q.1 ∧ q.1 ≤ q.2) (h2 : ms.Pairwise lexLe) : MgOk e ms (mergeS [] ms) := by
  have h3 : ms.Pairwise fun a b => a.1 ≤ b.1 := h2.imp fun {a b} h => by rcases h with h | h <;> omega
  cases ms with
  | nil => rw [mergeS]; exact ⟨trivial, (fun _ h => nomatch h), (fun _ h => nomatch h), (fun _ h => nomatch h)⟩
  | cons q r =>
    obtain ⟨p1, p2⟩ := List.pairwise_cons.mp h3
    obtain ⟨a1, a2⟩ := h1 q List.mem_cons_self
    have := mergeS_mg (r := r) (acc := []) (z := q)
    rw [List.nil_append, List.nil_append] at this
    rw [mergeS_nil, this]
    exact mg_ok a1 a2 (fun y hy => (h1 y (List.mem_cons_of_mem _ hy)).2) p1 p2
theorem join_ok {l m n : List Str} {f s : List Hk} {ms : List (Int × Int)} (vf : valid (-1) f = true) (vs : valid (-1) s = true) (hf : app 0 l f = some m) (hs : app 0 m s = some n) (hp : ms.Perm ((back f ++ s).map spanH)) (hw : ms.Pairwise lexLe) :
    (∀ q ∈ mergeS [] ms, q.1 ≤ q.2 ∧ q.2 - q.1 ≤ m.length) ∧ ∃ J, joinD f (back f) s (mergeS [] ms) 0 0 [] = some (J.map hkD) ∧ valid (-1) J = true ∧ app 0 l J = some n := by
  have vb := valid_back vf
  have hb := app_back vf hf
  have hin : ∀ h ∈ back f ++ s, -1 < h.s ∧ h.s + h.g.length ≤ m.length := fun h hh => by
    rcases List.mem_append.mp hh with z | z
    · have := app_in (i := 0) (by simpa using vb) hb h z
      exact ⟨valid_gt vb h z, by omega⟩
    · have := app_in (i := 0) (by simpa using vs) hs h z
      exact ⟨valid_gt vs h z, by omega⟩
  have hms : ∀ q ∈ ms, ∃ h ∈ back f ++ s, spanH h = q := fun q hq => by
    have := hp.mem_iff.mp hq
    obtain ⟨h, h1, h2⟩ := List.mem_map.mp this
    exact ⟨h, h1, h2⟩
  have M := mergeS_ok (ms := ms) (e := -1) (fun q hq => by
    obtain ⟨h, h1, h2⟩ := hms q hq
    have := (hin h h1).1
    rw [← h2]
    exact ⟨this, by show h.s ≤ h.s + (h.g.length : Nat); omega⟩) hw
  have bnd : ∀ q ∈ mergeS [] ms, -1 < q.1 ∧ q.1 ≤ q.2 ∧ q.2 ≤ m.length := fun q hq => by
    obtain ⟨x, x1, x2⟩ := M.top q hq
    obtain ⟨h, h1, h2⟩ := hms x x1
    have := (hin h h1).2
    have e : x.2 = h.s + h.g.length := by rw [← h2]; rfl
    have := M.sep.gt q hq
    exact ⟨this.1, this.2, by omega⟩
  have ins : ∀ h ∈ back f ++ s, ∃ q ∈ mergeS [] ms, InS h q := fun h hh => by
    obtain ⟨y, y1, y2, y3⟩ := M.ins (spanH h) (hp.mem_iff.mpr (List.mem_map.mpr ⟨h, hh, rfl⟩))
    exact ⟨y, y1, y2, y3⟩
  refine ⟨fun q hq => by have := bnd q hq; omega, ?_⟩
  have J := join_main (f := f) (b := back f) (s := s) (fun j k hk => backF_get hk) (mergeS [] ms) (-1) 0 0 [] [] (back f) [] s [] m l n rfl rfl (fun _ h => (nomatch h)) (fun _ h => (nomatch h)) vb vs (fun h hh => ins h (List.mem_append_left _ hh)) (fun h hh => ins h (List.mem_append_right _ hh)) M.sep
    (fun q hq j j1 j2 => by
      obtain ⟨x, x1, x2, x3⟩ := M.cov q hq j j1 j2
      obtain ⟨h, h1, h2⟩ := hms x x1
      refine ⟨h, h1, ?_, ?_⟩
      · rw [← h2] at x2; exact x2
      · rw [← h2] at x3; exact x3) (fun q hq => by have := bnd q hq; omega) (by omega) (by omega) hb hs
  obtain ⟨J, j1, j2, j3⟩ := J
  exact ⟨J, by simpa using j1, by simpa [gsum, csum] using j2, by simpa [gsum, csum] using j3⟩
def JoinRel (f s J : List Hk) : Prop := ∃ ms : List (Int × Int), ms.Perm ((back f ++ s).map spanH) ∧ ms.Pairwise lexLe ∧ joinD f (back f) s (mergeS [] ms) 0 0 [] = some (J.map hkD)
theorem hkD_inj : ∀ {p q : List Hk}, p.map hkD = q.map hkD → p = q
  | [], [], _ => rfl
  | [], _ :: _, h => by cases h
  | _ :: _, [], h => by cases h
  | a :: p, b :: q, h => by
    rw [List.map_cons, List.map_cons] at h
    injection h with h1 h2
    rw [hkD_inj h2]
    congr 1
    unfold hkD at h1
    injection h1 with h1
    injection h1 with h3 h4
    injection h4 with h4 h5
    injection h5 with h5 _
    injection h3 with h3
    have := strsD_inj h4
    have := strsD_inj h5
    cases a; cases b
    simp_all
theorem lex_anti {a b : Int × Int} (h : lexLe a b) (k : lexLe b a) : a = b := by
  unfold lexLe at h k
  refine Prod.ext ?_ ?_ <;> omega
theorem JoinRel.uni {f s J K : List Hk} (h : JoinRel f s J) (k : JoinRel f s K) : J = K := by
  obtain ⟨m1, a1, a2, a3⟩ := h
  obtain ⟨m2, b1, b2, b3⟩ := k
  have e : m1 = m2 := List.Perm.eq_of_pairwise (le := lexLe) (fun a b _ _ x y => lex_anti x y) a2 b2 (a1.trans b1.symm)
  subst e
  rw [a3] at b3
  exact hkD_inj (Option.some.inj b3)
open Classical in
noncomputable def joinP (f s : List Hk) : List Hk := if h : ∃ J, JoinRel f s J then h.choose else []
theorem joinP_eq {f s J : List Hk} (h : JoinRel f s J) : joinP f s = J := by
  have hx : ∃ J, JoinRel f s J := ⟨J, h⟩
  unfold joinP
  rw [dif_pos hx]
  exact hx.choose_spec.uni h
theorem sort_ex (l : List (Int × Int)) : ∃ ms : List (Int × Int), ms.Perm l ∧ ms.Pairwise lexLe := by
  refine ⟨l.mergeSort fun a b => decide (a.1 < b.1) || (decide (a.1 = b.1) && decide (a.2 ≤ b.2)), List.mergeSort_perm _ _, ?_⟩
  have := List.pairwise_mergeSort (le := fun a b : Int × Int => decide (a.1 < b.1) || (decide (a.1 = b.1) && decide (a.2 ≤ b.2))) (fun a b c h k => by simp at h k ⊢; omega) (fun a b => by simp; omega) l
  exact this.imp fun {a b} h => by simp at h; exact h
theorem joinP_ok {l m n : List Str} {f s : List Hk} (vf : valid (-1) f = true) (vs : valid (-1) s = true) (hf : app 0 l f = some m) (hs : app 0 m s = some n) : valid (-1) (joinP f s) = true ∧ app 0 l (joinP f s) = some n := by
  obtain ⟨ms, h1, h2⟩ := sort_ex ((back f ++ s).map spanH)
  obtain ⟨_, J, j1, j2, j3⟩ := join_ok vf vs hf hs h1 h2
  rw [joinP_eq ⟨ms, h1, h2, j1⟩]
  exact ⟨j2, j3⟩
/-- lines are lines -/
def OkP (p : List Hk) : Prop := ∀ h ∈ p, okL h.g ∧ okL h.c
theorem app_ok : ∀ {p : List Hk} {i : Int} {rest x : List Str}, app i rest p = some x → okL rest → okL x → OkP p
  | [], _, _, _, _, _, _, h, hh => by cases hh
  | k :: r, i, rest, x, ha, o1, o2, h, hh => by
    obtain ⟨z, c1, c2, c3, rfl⟩ := app_cons ha
    rcases List.mem_cons.mp hh with y | y
    · rw [y]
      refine ⟨?_, fun s hs => o2 s (by simp [hs])⟩
      rw [← c2]
      exact fun s hs => o1 s (List.mem_of_mem_drop (List.mem_of_mem_take hs))
    · exact app_ok c3 (fun s hs => o1 s (List.mem_of_mem_drop hs)) (fun s hs => o2 s (by simp [hs])) h y
theorem app_okL : ∀ {p : List Hk} {i : Int} {rest x : List Str}, app i rest p = some x → okL rest → OkP p → okL x
  | [], _, _, _, ha, o1, _ => by rw [app] at ha; cases ha; exact o1
  | k :: r, i, rest, x, ha, o1, o2 => by
    obtain ⟨z, c1, c2, c3, rfl⟩ := app_cons ha
    have := app_okL c3 (fun s hs => o1 s (List.mem_of_mem_drop hs)) fun h hh => o2 h (List.mem_cons_of_mem _ hh)
    intro s hs
    rcases List.mem_append.mp hs with hs | hs
    · rcases List.mem_append.mp hs with hs | hs
      · exact o1 s (List.mem_of_mem_take hs)
      · exact (o2 k List.mem_cons_self).2 s hs
    · exact this s hs
def fJoinP : FD := fun _ xs S P => ∃ (f s : List Hk) (l m n : List Str), xs = [.im (paD f), .im (paD s)] ∧ valid (-1) f = true ∧ valid (-1) s = true ∧ OkP f ∧ OkP s ∧ app 0 l f = some m ∧ app 0 m s = some n ∧ l.length ≤ 1000 ∧ m.length ≤ 1000 ∧ n.length ≤ 1000 ∧ P (paD (joinP f s)) S
theorem joined_of {EA : Err → Option Stk → Prop} {xs : List AV} {S : Option Stk} {P : D → Option Stk → Prop} (h : fJoinP EA xs S P) : fJoined EA xs S P := by
  obtain ⟨f, s, l, m, n, rfl, vf, vs, of, os, hf, hs, z1, z2, z3, q⟩ := h
  obtain ⟨a1, a2, a3, _⟩ := app_len (i := 0) (by simpa using vf) hf
  obtain ⟨b1, b2, b3, _⟩ := app_len (i := 0) (by simpa using vs) hs
  refine ⟨f, s, m.length, rfl, of, os, ?_, fun ms h1 h2 => ?_⟩
  · rw [sizeLine_eq]
    have : (f.length + s.length + 2) * m.length ≤ 2004 * 1000 := Nat.mul_le_mul (by omega) z2
    omega
  · obtain ⟨c1, J, j1, j2, j3⟩ := join_ok vf vs hf hs h1 h2
    refine ⟨c1, _, j1, ?_⟩
    rw [joinP_eq ⟨ms, h1, h2, j1⟩] at q
    exact q
end Ab


namespace Ab
open PySem L2
/-! ### a stack's patches, plainly -/
def run (f : Str → Option (List Hk)) : List Str → List Str → Option (List Str)
  | l, [] => some l
  | l, w :: r => match f w with
    | some p => match app 0 l p with
      | some l' => run f l' r
      | none => none
    | none => none
theorem run_cons {f : Str → Option (List Hk)} {l m : List Str} {w : Str} {r : List Str} (h : run f l (w :: r) = some m) : ∃ p l', f w = some p ∧ app 0 l p = some l' ∧ run f l' r = some m := by
  rw [run] at h
  split at h
  · rename_i p hp
    split at h
    · rename_i l' hl; exact ⟨p, l', hp, hl, h⟩
    · cases h
  · cases h
theorem run_of {f : Str → Option (List Hk)} {l l' m : List Str} {w : Str} {r : List Str} {p : List Hk} (h1 : f w = some p) (h2 : app 0 l p = some l') (h3 : run f l' r = some m) : run f l (w :: r) = some m := by
  rw [run, h1]; simp only []; rw [h2]; exact h3
theorem run_app {f : Str → Option (List Hk)} {b : List Str} : ∀ {a : List Str} {l m : List Str}, run f l (a ++ b) = some m ↔ ∃ k, run f l a = some k ∧ run f k b = some m
  | [], l, m => ⟨fun h => ⟨l, rfl, h⟩, fun ⟨k, h1, h2⟩ => by rw [run] at h1; cases h1; exact h2⟩
  | w :: r, l, m => by
    rw [List.cons_append]
    constructor
    · intro h
      obtain ⟨p, l', h1, h2, h3⟩ := run_cons h
      obtain ⟨k, k1, k2⟩ := run_app.mp h3
      exact ⟨k, run_of h1 h2 k1, k2⟩
    · rintro ⟨k, k1, k2⟩
      obtain ⟨p, l', h1, h2, h3⟩ := run_cons k1
      exact run_of h1 h2 (run_app.mpr ⟨k, h3, k2⟩)
theorem run_congr {f g : Str → Option (List Hk)} : ∀ {a : List Str} {l : List Str}, (∀ w ∈ a, f w = g w) → run f l a = run g l a
  | [], l, _ => rfl
  | w :: r, l, h => by
    rw [run, run, h w List.mem_cons_self]
    cases g w with
    | none => rfl
    | some p =>
      simp only []
      cases app 0 l p with
      | none => rfl
      | some l' => exact run_congr fun x hx => h x (List.mem_cons_of_mem _ hx)
def grow (p : List Hk) : Nat := csum p - gsum p
def growO (o : Option (List Hk)) : Nat := match o with
  | some p => grow p
  | none => 0
def pot (f : Str → Option (List Hk)) (ws : List Str) : Nat := (ws.map fun w => growO (f w)).sum
theorem pot_app {f : Str → Option (List Hk)} {a b : List Str} : pot f (a ++ b) = pot f a + pot f b := by unfold pot; rw [List.map_append, List.sum_append]
theorem pot_cons {f : Str → Option (List Hk)} {a : Str} {b : List Str} : pot f (a :: b) = growO (f a) + pot f b := by unfold pot; rw [List.map_cons, List.sum_cons]
theorem pot_congr {f g : Str → Option (List Hk)} {a : List Str} (h : ∀ w ∈ a, growO (f w) = growO (g w)) : pot f a = pot g a := by
  unfold pot
  congr 1
  exact List.map_congr_left h
theorem pot_take {f : Str → Option (List Hk)} {a : List Str} {n : Nat} : pot f (a.take n) ≤ pot f a := by
  have := pot_app (f := f) (a := a.take n) (b := a.drop n)
  rw [List.take_append_drop] at this
  omega
theorem run_len {f : Str → Option (List Hk)} (hv : ∀ x p, f x = some p → valid (-1) p = true) : ∀ {a l m : List Str}, run f l a = some m → m.length ≤ l.length + pot f a
  | [], l, m, h => by rw [run] at h; cases h; unfold pot; simp
  | w :: r, l, m, h => by
    obtain ⟨p, l', h1, h2, h3⟩ := run_cons h
    have := run_len hv h3
    obtain ⟨a1, _⟩ := app_len (i := 0) (by simpa using hv w p h1) h2
    rw [pot_cons, h1]
    show m.length ≤ l.length + (grow p + pot f r)
    unfold grow
    omega
def WordOk (x : Str) : Prop := isWord x = true ∧ x.length ≤ 24 ∧ PyData.strOk x = true
structure PatOk (N : Nat) (p : List Hk) : Prop where
  v : valid (-1) p = true
  o : OkP p
  l : p.length ≤ N + 1
  g : gsum p ≤ N
  c : csum p ≤ N
structure Good (N : Nat) (W : Wd) : Prop where
  nd : W.words.Nodup
  few : W.words.length ≤ N
  key : ∀ x, (W.pat x).isSome = true ↔ x ∈ W.words
  many : W.many ≤ W.words.length
  okb : okL W.base
  pat : ∀ x p, W.pat x = some p → PatOk N p
  lin : ∃ m, run W.pat W.base (W.words.take W.many) = some m
  size : W.base.length + pot W.pat W.words ≤ N
  wok : ∀ x ∈ W.words, WordOk x
theorem PatOk.up {N M : Nat} {p : List Hk} (h : PatOk N p) (e : N ≤ M) : PatOk M p := ⟨h.v, h.o, Nat.le_trans h.l (by omega), Nat.le_trans h.g e, Nat.le_trans h.c e⟩
theorem Good.up {N M : Nat} {W : Wd} (h : Good N W) (e : N ≤ M) : Good M W := ⟨h.nd, Nat.le_trans h.few e, h.key, h.many, h.okb, fun x p k => (h.pat x p k).up e, h.lin, Nat.le_trans h.size e, h.wok⟩
theorem Good.at {N : Nat} {W : Wd} (h : Good N W) {x : Str} (hx : x ∈ W.words) : ∃ p, W.pat x = some p := Option.isSome_iff_exists.mp ((h.key x).mpr hx)
theorem PatOk.fine {N : Nat} {p : List Hk} (h : PatOk N p) : Fine p := ⟨fun k hk => by have := valid_gt h.v k hk; omega, fun k hk => (h.o k hk).1, fun k hk => (h.o k hk).2⟩
theorem PatOk.short {N : Nat} {p : List Hk} {l : List Str} (h : PatOk N p) (hN : N ≤ 200) (hl : l.length ≤ 200) : Short l p := by
  unfold Short
  have := h.l
  have := h.c
  have : (p.length + 1) * l.length ≤ 202 * 200 := Nat.mul_le_mul (by omega) hl
  rw [sizeLine_eq]
  omega
theorem run_runs {f : Str → Option (List Hk)} {N : Nat} (hN : N ≤ 200) (hv : ∀ x p, f x = some p → PatOk N p) : ∀ {a l m : List Str}, okL l → l.length + pot f a ≤ 200 → run f l a = some m → Runs f l a m ∧ okL m
  | [], l, m, o, _, h => by rw [run] at h; cases h; exact ⟨rfl, o⟩
  | w :: r, l, m, o, z, h => by
    obtain ⟨p, l', h1, h2, h3⟩ := run_cons h
    have hp := hv w p h1
    obtain ⟨a1, _⟩ := app_len (i := 0) (by simpa using hp.v) h2
    rw [pot_cons, h1] at z
    have z : l.length + (grow p + pot f r) ≤ 200 := z
    have z2 : l'.length + pot f r ≤ 200 := by unfold grow at z; omega
    obtain ⟨b1, b2⟩ := run_runs hN hv (app_okL h2 o hp.o) z2 h3
    exact ⟨⟨p, l', h1, o, hp.fine, hp.short hN (by omega), by rw [putOn_app hp.v]; exact h2, b1⟩, b2⟩
theorem Good.lines {N : Nat} {W : Wd} (h : Good N W) (hN : N ≤ 200) : ∃ m, run W.pat W.base (W.words.take W.many) = some m ∧ Runs W.pat W.base (W.words.take W.many) m ∧ okL m ∧ m.length ≤ N := by
  obtain ⟨m, hm⟩ := h.lin
  have hp := h.size
  have ht := pot_take (f := W.pat) (a := W.words) (n := W.many)
  obtain ⟨a, b⟩ := run_runs hN h.pat h.okb (by omega) hm
  have := run_len (fun x p k => (h.pat x p k).v) hm
  exact ⟨m, hm, a, b, by omega⟩
/-! ### the place of a word -/
def idx (x : Str) : List Str → Nat
  | [] => 0
  | y :: r => if y = x then 0 else idx x r + 1
theorem idx_le {x : Str} : ∀ {l : List Str}, idx x l ≤ l.length
  | [] => Nat.le_refl _
  | y :: r => by rw [idx]; have := idx_le (x := x) (l := r); split <;> simp <;> omega
theorem idx_lt {x : Str} : ∀ {l : List Str}, idx x l < l.length ↔ x ∈ l
  | [] => by simp [idx]
  | y :: r => by
    rw [idx]
    have := idx_lt (x := x) (l := r)
    by_cases e : y = x
    · rw [if_pos e]; simp [e]
    · rw [if_neg e, List.length_cons, List.mem_cons, Nat.add_lt_add_iff_right, this]
      exact ⟨.inr, fun h => h.resolve_left fun z => e z.symm⟩
theorem idx_at {x : Str} : ∀ {l : List Str}, x ∈ l → l[idx x l]? = some x
  | [], h => by cases h
  | y :: r, h => by
    rw [idx]
    by_cases e : y = x
    · rw [if_pos e]; simp [e]
    · rw [if_neg e, List.getElem?_cons_succ]
      exact idx_at ((List.mem_cons.mp h).resolve_left fun z => e z.symm)
theorem idx_no {x : Str} : ∀ {l : List Str} {m : Nat}, m < idx x l → l[m]? ≠ some x
  | [], m, h => by rw [idx] at h; omega
  | y :: r, m, h => by
    rw [idx] at h
    by_cases e : y = x
    · rw [if_pos e] at h; omega
    · rw [if_neg e] at h
      cases m with
      | zero => simpa using e
      | succ m => rw [List.getElem?_cons_succ]; exact idx_no (by omega)
theorem idx_app {x : Str} {b : List Str} : ∀ {a : List Str}, x ∉ a → idx x (a ++ b) = a.length + idx x b
  | [], _ => by simp
  | y :: r, h => by
    rw [List.cons_append, idx, if_neg (fun e => h (by rw [e]; exact List.mem_cons_self)), idx_app fun z => h (List.mem_cons_of_mem _ z)]
    simp; omega
theorem idx_take {x : Str} {n : Nat} {l : List Str} (h : idx x l < n) (hx : x ∈ l) : idx x (l.take n) = idx x l := by
  induction l generalizing n with
  | nil => cases hx
  | cons y r ih =>
    cases n with
    | zero => omega
    | succ n =>
      rw [List.take_succ_cons, idx, idx]
      by_cases e : y = x
      · rw [if_pos e, if_pos e]
      · rw [if_neg e, if_neg e, ih (by rw [idx, if_neg e] at h; omega) ((List.mem_cons.mp hx).resolve_left fun z => e z.symm)]
theorem idx_split {x : Str} {l : List Str} (h0 : idx x l ≠ 0) (hx : x ∈ l) : ∃ A o B, l = A ++ o :: x :: B ∧ idx x l = A.length + 1 := by
  have hl := idx_lt.mpr hx
  have e1 : l = l.take (idx x l - 1) ++ l.drop (idx x l - 1) := (List.take_append_drop _ _).symm
  have hl2 : idx x l - 1 < l.length := by omega
  have e2 : l.drop (idx x l - 1) = l[idx x l - 1] :: l.drop (idx x l - 1 + 1) := List.drop_eq_getElem_cons hl2
  rw [show idx x l - 1 + 1 = idx x l by omega] at e2
  have e3 : l.drop (idx x l) = l[idx x l] :: l.drop (idx x l + 1) := List.drop_eq_getElem_cons hl
  have e4 : l[idx x l] = x := by
    have := idx_at hx
    rw [List.getElem?_eq_getElem hl] at this
    exact Option.some.inj this
  refine ⟨l.take (idx x l - 1), l[idx x l - 1], l.drop (idx x l + 1), ?_, by rw [List.length_take]; omega⟩
  rw [e4] at e3
  rw [← e3, ← e2, ← e1]
end Ab


namespace Ab
open PySem L2
/-! ### exchanged -/
inductive Sw where
  | no
  | ref
  | ok (W : Wd)
def swapW (W : Wd) (x : Str) : Sw :=
  if idx x W.words = 0 ∨ W.many ≤ idx x W.words then .no else
    match W.words[idx x W.words - 1]? with
    | some o => match W.pat o, W.pat x with
      | some f, some s => if touchB s (back f) = true then .ref else
          .ok { W with words := W.words.take (idx x W.words - 1) ++ [x, o] ++ W.words.drop (idx x W.words + 1), pat := setP (setP W.pat x (ovL s (back f))) o (ovL f (ovL s (back f))) }
      | _, _ => .no
    | none => .no
structure SwapAt (W : Wd) (x : Str) (A : List Str) (o : Str) (B : List Str) (f s : List Hk) : Prop where
  w : W.words = A ++ o :: x :: B
  i : idx x W.words = A.length + 1
  m : A.length + 2 ≤ W.many
  f : W.pat o = some f
  s : W.pat x = some s
def swapped (W : Wd) (x : Str) (A : List Str) (o : Str) (B : List Str) (f s : List Hk) : Wd := { W with words := A ++ [x, o] ++ B, pat := setP (setP W.pat x (ovL s (back f))) o (ovL f (ovL s (back f))) }
theorem swap_cases {N : Nat} {W : Wd} (G : Good N W) (x : Str) : (swapW W x = .no ∧ (idx x W.words = 0 ∨ W.many ≤ idx x W.words)) ∨
    ∃ A o B f s, SwapAt W x A o B f s ∧ ((touchB s (back f) = true ∧ swapW W x = .ref) ∨ (touchB s (back f) = false ∧ swapW W x = .ok (swapped W x A o B f s))) := by
  by_cases c : idx x W.words = 0 ∨ W.many ≤ idx x W.words
  · exact .inl ⟨by unfold swapW; rw [if_pos c], c⟩
  · have hm := G.many
    have hx : x ∈ W.words := idx_lt.mp (by omega)
    obtain ⟨A, o, B, e1, e2⟩ := idx_split (by omega) hx
    have ho : o ∈ W.words := by rw [e1]; simp
    obtain ⟨f, hf⟩ := G.at ho
    obtain ⟨s, hs⟩ := G.at hx
    refine .inr ⟨A, o, B, f, s, ⟨e1, e2, by omega, hf, hs⟩, ?_⟩
    have g1 : W.words[idx x W.words - 1]? = some o := by rw [e2, e1]; simp
    have g2 : W.words.take (idx x W.words - 1) = A := by rw [e2, e1]; simp
    have g3 : W.words.drop (idx x W.words + 1) = B := by
      rw [e2, e1, show A ++ o :: x :: B = (A ++ [o, x]) ++ B by simp]
      exact drop_len (by simp)
    unfold swapW
    rw [if_neg c, g1]
    simp only []
    rw [hf, hs, g2, g3]
    simp only []
    by_cases t : touchB s (back f) = true
    · rw [if_pos t]; exact .inl ⟨t, rfl⟩
    · rw [if_neg t]; exact .inr ⟨by simpa using t, rfl⟩
theorem ovL_sum {p o : List Hk} : (ovL p o).length = p.length ∧ gsum (ovL p o) = gsum p ∧ csum (ovL p o) = csum p := by
  unfold ovL gsum csum
  rw [List.length_map, List.map_map, List.map_map]
  exact ⟨rfl, rfl, rfl⟩
theorem ovL_ok {p o : List Hk} (h : OkP p) : OkP (ovL p o) := fun k hk => by
  obtain ⟨j, hj, rfl⟩ := List.mem_map.mp hk
  exact h j hj
theorem PatOk.ov {N : Nat} {p o : List Hk} (h : PatOk N p) (v : valid (-1) (ovL p o) = true) : PatOk N (ovL p o) := by
  obtain ⟨e1, e2, e3⟩ := ovL_sum (p := p) (o := o)
  exact ⟨v, ovL_ok h.o, by rw [e1]; exact h.l, by rw [e2]; exact h.g, by rw [e3]; exact h.c⟩
theorem grow_ov {p o : List Hk} : grow (ovL p o) = grow p := by
  obtain ⟨e1, e2, e3⟩ := ovL_sum (p := p) (o := o)
  unfold grow; rw [e2, e3]
theorem setP_same {f : Str → Option (List Hk)} {x : Str} {p : List Hk} : setP f x p x = some p := by unfold setP; rw [if_pos rfl]
theorem setP_ne {f : Str → Option (List Hk)} {x y : Str} {p : List Hk} (h : y ≠ x) : setP f x p y = f y := by unfold setP; rw [if_neg h]
theorem swap_ne {N : Nat} {W : Wd} (G : Good N W) {x o : Str} {A B : List Str} (e : W.words = A ++ o :: x :: B) : x ≠ o ∧ (∀ w ∈ A, w ≠ x ∧ w ≠ o) ∧ ∀ w ∈ B, w ≠ x ∧ w ≠ o := by
  have nd := G.nd
  rw [e] at nd
  obtain ⟨n1, n2, n3⟩ := List.nodup_append.mp nd
  obtain ⟨m1, m2⟩ := List.nodup_cons.mp n2
  obtain ⟨m3, m4⟩ := List.nodup_cons.mp m2
  refine ⟨fun z => m1 (by rw [z]; exact List.mem_cons_self), fun w hw => ⟨fun z => n3 w hw x (by simp) z, fun z => n3 w hw o (by simp) z⟩, fun w hw => ⟨fun z => m3 (by rw [← z]; exact hw), fun z => m1 (by rw [← z]; exact List.mem_cons_of_mem _ hw)⟩⟩
theorem SwapAt.no2 {W : Wd} {x o : Str} {A B : List Str} {f s : List Hk} {N : Nat} (h : SwapAt W x A o B f s) (G : Good N W) (t : touchB s (back f) = false) : touchB f (ovL s (back f)) = false ∧ valid (-1) (ovL s (back f)) = true ∧ valid (-1) (ovL f (ovL s (back f))) = true := by
  have vf := (G.pat _ _ h.f).v
  have vs := (G.pat _ _ h.s).v
  obtain ⟨r1, r2⟩ := ovL_round vf (s := s) (fun h hh => valid_gt vs h hh) (touchB_no t)
  have t2 : touchB f (ovL s (back f)) = false := touchB_of fun h hh k hk => by rw [touch_comm]; exact r2 k hk h hh
  have va := valid_carried vs (valid_back vf) t
  exact ⟨t2, va, valid_carried vf va t2⟩
theorem swap_good {N : Nat} {W : Wd} {x o : Str} {A B : List Str} {f s : List Hk} (G : Good N W) (h : SwapAt W x A o B f s) (t : touchB s (back f) = false) : Good N (swapped W x A o B f s) := by
  obtain ⟨ne, nA, nB⟩ := swap_ne G h.w
  obtain ⟨t2, va, vb⟩ := h.no2 G t
  have pf := G.pat _ _ h.f
  have ps := G.pat _ _ h.s
  have perm : (A ++ [x, o] ++ B).Perm W.words := by
    rw [h.w, List.append_assoc]
    refine List.Perm.append_left A ?_
    exact List.Perm.swap _ _ _
  have atx : setP (setP W.pat x (ovL s (back f))) o (ovL f (ovL s (back f))) x = some (ovL s (back f)) := by rw [setP_ne ne, setP_same]
  have ato : setP (setP W.pat x (ovL s (back f))) o (ovL f (ovL s (back f))) o = some (ovL f (ovL s (back f))) := setP_same
  have oth : ∀ w, w ≠ x ∧ w ≠ o → setP (setP W.pat x (ovL s (back f))) o (ovL f (ovL s (back f))) w = W.pat w := fun w hw => by rw [setP_ne hw.2, setP_ne hw.1]
  refine ⟨perm.nodup_iff.mpr G.nd, by show (A ++ [x, o] ++ B).length ≤ N; rw [perm.length_eq]; exact G.few, fun y => ?_, by show W.many ≤ (A ++ [x, o] ++ B).length; rw [perm.length_eq]; exact G.many, G.okb, fun y p hy => ?_, ?_, ?_, fun y hy => G.wok y (perm.mem_iff.mp hy)⟩
  · show (setP (setP W.pat x (ovL s (back f))) o (ovL f (ovL s (back f))) y).isSome = true ↔ y ∈ A ++ [x, o] ++ B
    rw [perm.mem_iff, ← G.key]
    by_cases e1 : y = o
    · rw [e1, ato, h.f]; simp
    · by_cases e2 : y = x
      · rw [e2, atx, h.s]; simp
      · rw [oth y ⟨e2, e1⟩]
  · have hy : setP (setP W.pat x (ovL s (back f))) o (ovL f (ovL s (back f))) y = some p := hy
    by_cases e1 : y = o
    · rw [e1, ato] at hy; cases hy; exact pf.ov vb
    · by_cases e2 : y = x
      · rw [e2, atx] at hy; cases hy; exact ps.ov va
      · rw [oth y ⟨e2, e1⟩] at hy; exact G.pat y p hy
  · obtain ⟨m, hm⟩ := G.lin
    have hl := h.m
    have e1 : W.words.take W.many = A ++ (o :: x :: B.take (W.many - A.length - 2)) := by
      rw [h.w, List.take_append, List.take_of_length_le (show A.length ≤ W.many by omega)]
      congr 1
      rw [show W.many - A.length = (W.many - A.length - 2) + 1 + 1 by omega, List.take_succ_cons, List.take_succ_cons]
      rfl
    have e2 : (A ++ [x, o] ++ B).take W.many = A ++ (x :: o :: B.take (W.many - A.length - 2)) := by
      rw [List.append_assoc, List.take_append, List.take_of_length_le (show A.length ≤ W.many by omega)]
      congr 1
      rw [show W.many - A.length = (W.many - A.length - 2) + 1 + 1 by omega]
      show List.take _ (x :: o :: B) = _
      rw [List.take_succ_cons, List.take_succ_cons]
      rfl
    rw [e1] at hm
    obtain ⟨k, k1, k2⟩ := run_app.mp hm
    obtain ⟨f', l1, q1, q2, q3⟩ := run_cons k2
    obtain ⟨s', l2, q4, q5, q6⟩ := run_cons q3
    rw [h.f] at q1; cases q1
    rw [h.s] at q4; cases q4
    obtain ⟨_, _, _, z, z1, z2⟩ := commute pf.v ps.v t q2 q5
    refine ⟨m, ?_⟩
    show run (setP (setP W.pat x (ovL s (back f))) o (ovL f (ovL s (back f)))) W.base ((A ++ [x, o] ++ B).take W.many) = some m
    rw [e2]
    refine run_app.mpr ⟨k, ?_, run_of atx z1 (run_of ato z2 ?_)⟩
    · rw [run_congr fun w hw => oth w (nA w hw)]; exact k1
    · rw [run_congr fun w hw => oth w (nB w (List.mem_of_mem_take hw))]; exact q6
  · have := G.size
    rw [h.w, pot_app, pot_cons, pot_cons, h.f, h.s] at this
    show W.base.length + pot (setP (setP W.pat x (ovL s (back f))) o (ovL f (ovL s (back f)))) (A ++ [x, o] ++ B) ≤ N
    rw [List.append_assoc, pot_app, pot_app, pot_cons, pot_cons, atx, ato, pot_congr (a := A) (g := W.pat) fun w hw => by rw [oth w (nA w hw)], pot_congr (a := B) (g := W.pat) fun w hw => by rw [oth w (nB w hw)]]
    have e0 : pot (setP (setP W.pat x (ovL s (back f))) o (ovL f (ovL s (back f)))) [] = 0 := rfl
    have g1 : growO (some (ovL s (back f))) = growO (some s) := grow_ov
    have g2 : growO (some (ovL f (ovL s (back f)))) = growO (some f) := grow_ov
    rw [e0, g1, g2]
    omega
theorem swap_idx {N : Nat} {W : Wd} {x o : Str} {A B : List Str} {f s : List Hk} (G : Good N W) (h : SwapAt W x A o B f s) : idx x (swapped W x A o B f s).words = A.length ∧ idx o (swapped W x A o B f s).words = A.length + 1 ∧ (swapped W x A o B f s).words.length = W.words.length := by
  obtain ⟨ne, nA, nB⟩ := swap_ne G h.w
  have hA : x ∉ A := fun z => (nA x z).1 rfl
  have hoA : o ∉ A := fun z => (nA o z).2 rfl
  refine ⟨?_, ?_, ?_⟩
  · show idx x (A ++ [x, o] ++ B) = _
    rw [List.append_assoc, idx_app hA]
    simp [idx]
  · show idx o (A ++ [x, o] ++ B) = _
    rw [List.append_assoc, idx_app hoA]
    simp [idx, ne]
  · show (A ++ [x, o] ++ B).length = _
    rw [h.w]; simp
theorem swap_ok {N : Nat} {W W' : Wd} {x : Str} (G : Good N W) (h : swapW W x = .ok W') : Good N W' ∧ W'.words.length = W.words.length ∧ W'.many = W.many ∧ W'.base = W.base ∧ idx x W.words < W.many ∧ idx x W.words = idx x W'.words + 1 ∧ (∀ y, y ∈ W'.words ↔ y ∈ W.words) := by
  rcases swap_cases G x with ⟨e, _⟩ | ⟨A, o, B, f, s, h1, ⟨t, e⟩ | ⟨t, e⟩⟩
  · rw [e] at h; cases h
  · rw [e] at h; cases h
  · rw [e] at h; cases h
    obtain ⟨i1, i2, i3⟩ := swap_idx G h1
    refine ⟨swap_good G h1 t, i3, rfl, rfl, by have := h1.i; have := h1.m; omega, by rw [i1]; exact h1.i, fun y => ?_⟩
    show y ∈ A ++ [x, o] ++ B ↔ y ∈ W.words
    rw [h1.w]
    simp only [List.mem_append, List.mem_cons, List.not_mem_nil, or_false]
    constructor
    · rintro ((h | h | h) | h)
      · exact .inl h
      · exact .inr (.inr (.inl h))
      · exact .inr (.inl h)
      · exact .inr (.inr (.inr h))
    · rintro (h | h | h | h)
      · exact .inl (.inl h)
      · exact .inl (.inr (.inr h))
      · exact .inl (.inr (.inl h))
      · exact .inr h
/-! ### sunk -/
def sinkW : Nat → Wd → Str → Wd × Nat
  | 0, W, _ => (W, 0)
  | n + 1, W, x => match swapW W x with
    | .ok W' => ((sinkW n W' x).1, (sinkW n W' x).2 + 1)
    | _ => (W, 0)
theorem sink_ok {N : Nat} {x : Str} : ∀ {n : Nat} {W : Wd}, Good N W → Good N (sinkW n W x).1 ∧ (sinkW n W x).1.words.length = W.words.length ∧ (sinkW n W x).1.many = W.many ∧ (sinkW n W x).2 + idx x (sinkW n W x).1.words = idx x W.words ∧ (∀ y, y ∈ (sinkW n W x).1.words ↔ y ∈ W.words) ∧ (W.many ≤ idx x W.words → (sinkW n W x) = (W, 0))
  | 0, W, G => ⟨G, rfl, rfl, by simp [sinkW], fun _ => Iff.rfl, fun _ => rfl⟩
  | n + 1, W, G => by
    rw [sinkW]
    cases e : swapW W x with
    | no => exact ⟨G, rfl, rfl, by simp, fun _ => Iff.rfl, fun _ => rfl⟩
    | ref => exact ⟨G, rfl, rfl, by simp, fun _ => Iff.rfl, fun _ => rfl⟩
    | ok W' =>
      obtain ⟨g1, g2, g3, g4, g5, g6, g7⟩ := swap_ok G e
      obtain ⟨h1, h2, h3, h4, h5, h6⟩ := sink_ok (n := n) g1
      refine ⟨h1, by rw [← g2]; exact h2, by rw [← g3]; exact h3, ?_, fun y => (h5 y).trans (g7 y), fun z => by omega⟩
      simp only []
      omega
/-! ### floated -/
def floatEnd (W : Wd) (x : Str) : Wd := if idx x W.words + 1 = W.many then { W with many := W.many - 1 } else W
def floatW : Nat → Wd → Str → Sw
  | 0, W, x => .ok (floatEnd W x)
  | n + 1, W, x => if idx x W.words + 1 < W.many then match W.words[idx x W.words + 1]? with
      | some o => match swapW W o with
        | .ok W' => floatW n W' x
        | _ => .ref
      | none => .ref
    else .ok (floatEnd W x)
theorem float_end {N : Nat} {W : Wd} {x : Str} (G : Good N W) : Good N (floatEnd W x) ∧ (floatEnd W x).words = W.words := by
  unfold floatEnd
  split
  · rename_i c
    refine ⟨⟨G.nd, G.few, G.key, by show W.many - 1 ≤ W.words.length; have := G.many; omega, G.okb, G.pat, ?_, G.size, G.wok⟩, rfl⟩
    obtain ⟨m, hm⟩ := G.lin
    have e : W.words.take W.many = W.words.take (W.many - 1) ++ (W.words.drop (W.many - 1)).take 1 := by
      rw [← List.take_add]; congr 1; omega
    rw [e] at hm
    obtain ⟨k, k1, _⟩ := run_app.mp hm
    exact ⟨k, k1⟩
  · exact ⟨G, rfl⟩
/-- one step: the word behind is exchanged with it -/
theorem float_step {N : Nat} {W : Wd} {x : Str} (G : Good N W) (c : idx x W.words + 1 < W.many) : ∃ o, W.words[idx x W.words + 1]? = some o ∧ o ∈ W.words ∧ idx o W.words = idx x W.words + 1 ∧ (swapW W o = .ref ∨ ∃ W', swapW W o = .ok W' ∧ Good N W' ∧ W'.many = W.many ∧ idx x W'.words = idx x W.words + 1 ∧ W'.words.length = W.words.length ∧ (∀ y, y ∈ W'.words ↔ y ∈ W.words)) := by
  have hm := G.many
  have hx : x ∈ W.words := idx_lt.mp (by omega)
  have hl : idx x W.words + 1 < W.words.length := by omega
  have ho : W.words[idx x W.words + 1]? = some W.words[idx x W.words + 1] := List.getElem?_eq_getElem hl
  have hmem : W.words[idx x W.words + 1] ∈ W.words := List.getElem_mem hl
  have io : idx W.words[idx x W.words + 1] W.words = idx x W.words + 1 := by
    have h1 := idx_at hmem
    have h2 := idx_lt.mpr hmem
    rw [List.getElem?_eq_getElem h2] at h1
    exact (List.getElem_inj G.nd).mp (Option.some.inj h1)
  refine ⟨_, ho, hmem, io, ?_⟩
  rcases swap_cases G W.words[idx x W.words + 1] with ⟨e, e2⟩ | ⟨A, o, B, f, s, h1, ⟨t, e⟩ | ⟨t, e⟩⟩
  · omega
  · exact .inl e
  · obtain ⟨g1, g2, g3, g4, g5, g6, g7⟩ := swap_ok G e
    refine .inr ⟨_, e, g1, g3, ?_, g2, g7⟩
    obtain ⟨i1, i2, i3⟩ := swap_idx G h1
    have hi := h1.i
    have ex : x = o := by
      have q1 := idx_at hx
      have q2 : W.words[idx x W.words]? = some o := by
        rw [show idx x W.words = A.length by omega, h1.w]; simp
      rw [q1] at q2
      exact Option.some.inj q2
    subst ex
    rw [i2]; omega
theorem float_ok {N : Nat} {x : Str} : ∀ {n : Nat} {W W' : Wd}, Good N W → floatW n W x = .ok W' → Good N W' ∧ W'.words.length = W.words.length ∧ (∀ y, y ∈ W'.words ↔ y ∈ W.words)
  | 0, W, W', G, h => by rw [floatW] at h; cases h; obtain ⟨a, b⟩ := float_end (x := x) G; exact ⟨a, by rw [b], fun y => by rw [b]⟩
  | n + 1, W, W', G, h => by
    rw [floatW] at h
    by_cases c : idx x W.words + 1 < W.many
    · rw [if_pos c] at h
      obtain ⟨o, ho, _, _, h1⟩ := float_step G c
      rw [ho] at h
      simp only [] at h
      rcases h1 with h1 | ⟨W1, e, g, g2, g3, g4, g5⟩
      · rw [h1] at h; cases h
      · rw [e] at h
        obtain ⟨a, b, d⟩ := float_ok g h
        exact ⟨a, by rw [b, g4], fun y => (d y).trans (g5 y)⟩
    · rw [if_neg c] at h
      cases h; obtain ⟨a, b⟩ := float_end (x := x) G; exact ⟨a, by rw [b], fun y => by rw [b]⟩
end Ab


namespace Ab
open PySem L2
theorem run_okL {f : Str → Option (List Hk)} (hv : ∀ x p, f x = some p → OkP p) : ∀ {a l m : List Str}, okL l → run f l a = some m → okL m
  | [], l, m, o, h => by rw [run] at h; cases h; exact o
  | w :: r, l, m, o, h => by
    obtain ⟨p, l', h1, h2, h3⟩ := run_cons h
    exact run_okL hv (app_okL h2 o (hv w p h1)) h3
/-! ### folded -/
noncomputable def foldW (W : Wd) (x : Str) : Option Wd :=
  if idx x W.words = 0 ∨ W.many ≤ idx x W.words then none else
    match W.words[idx x W.words - 1]? with
    | some o => match W.pat o, W.pat x with
      | some f, some s => some ⟨W.base, W.words.take (idx x W.words) ++ W.words.drop (idx x W.words + 1), fun y => if y = x then none else setP W.pat o (joinP f s) y, W.many - 1⟩
      | _, _ => none
    | none => none
noncomputable def folded (W : Wd) (x : Str) (A : List Str) (o : Str) (B : List Str) (f s : List Hk) : Wd := ⟨W.base, A ++ o :: B, fun y => if y = x then none else setP W.pat o (joinP f s) y, W.many - 1⟩
theorem fold_cases {N : Nat} {W : Wd} (G : Good N W) (x : Str) : (foldW W x = none ∧ (idx x W.words = 0 ∨ W.many ≤ idx x W.words)) ∨ ∃ A o B f s, SwapAt W x A o B f s ∧ foldW W x = some (folded W x A o B f s) := by
  by_cases c : idx x W.words = 0 ∨ W.many ≤ idx x W.words
  · exact .inl ⟨by unfold foldW; rw [if_pos c], c⟩
  · have hm := G.many
    have hx : x ∈ W.words := idx_lt.mp (by omega)
    obtain ⟨A, o, B, e1, e2⟩ := idx_split (by omega) hx
    have ho : o ∈ W.words := by rw [e1]; simp
    obtain ⟨f, hf⟩ := G.at ho
    obtain ⟨s, hs⟩ := G.at hx
    refine .inr ⟨A, o, B, f, s, ⟨e1, e2, by omega, hf, hs⟩, ?_⟩
    have g1 : W.words[idx x W.words - 1]? = some o := by rw [e2, e1]; simp
    have g2 : W.words.take (idx x W.words) = A ++ [o] := by
      rw [e2, e1, show A ++ o :: x :: B = (A ++ [o]) ++ (x :: B) by simp]
      exact take_len (by simp)
    have g3 : W.words.drop (idx x W.words + 1) = B := by
      rw [e2, e1, show A ++ o :: x :: B = (A ++ [o, x]) ++ B by simp]
      exact drop_len (by simp)
    unfold foldW
    rw [if_neg c, g1]
    simp only []
    rw [hf, hs, g2, g3]
    simp only []
    unfold folded
    rw [show A ++ [o] ++ B = A ++ o :: B by simp]
/-- the lines on either side of the two, and between them -/
theorem SwapAt.runs {N : Nat} {W : Wd} {x o : Str} {A B : List Str} {f s : List Hk} (h : SwapAt W x A o B f s) (G : Good N W) : ∃ l l1 l2 m, run W.pat W.base A = some l ∧ app 0 l f = some l1 ∧ app 0 l1 s = some l2 ∧ run W.pat l2 (B.take (W.many - A.length - 2)) = some m ∧ l.length ≤ N ∧ l1.length ≤ N ∧ l2.length ≤ N ∧ okL l ∧ okL l2 ∧ l.length + grow f + grow s ≤ N ∧ l2.length + gsum f + gsum s = l.length + csum f + csum s := by
  obtain ⟨m, hm⟩ := G.lin
  have hl := h.m
  have e1 : W.words.take W.many = A ++ (o :: x :: B.take (W.many - A.length - 2)) := by
    rw [h.w, List.take_append, List.take_of_length_le (show A.length ≤ W.many by omega)]
    congr 1
    rw [show W.many - A.length = (W.many - A.length - 2) + 1 + 1 by omega, List.take_succ_cons, List.take_succ_cons]
    rfl
  rw [e1] at hm
  obtain ⟨k, k1, k2⟩ := run_app.mp hm
  obtain ⟨f', l1, q1, q2, q3⟩ := run_cons k2
  obtain ⟨s', l2, q4, q5, q6⟩ := run_cons q3
  rw [h.f] at q1; cases q1
  rw [h.s] at q4; cases q4
  have pf := G.pat _ _ h.f
  have ps := G.pat _ _ h.s
  have a1 := run_len (fun x p k => (G.pat x p k).v) k1
  obtain ⟨b1, b2, _⟩ := app_len (i := 0) (by simpa using pf.v) q2
  obtain ⟨c1, c2, _⟩ := app_len (i := 0) (by simpa using ps.v) q5
  have sz := G.size
  rw [h.w, pot_app, pot_cons, pot_cons, h.f, h.s] at sz
  have sz : W.base.length + (pot W.pat A + (grow f + (grow s + pot W.pat B))) ≤ N := sz
  have ok := run_okL (fun x p k => (G.pat x p k).o) G.okb k1
  refine ⟨k, l1, l2, m, k1, q2, q5, q6, by omega, by unfold grow at sz; omega, by unfold grow at sz; omega, ok, app_okL q5 (app_okL q2 ok pf.o) ps.o, by omega, by omega⟩
theorem fold_good {N : Nat} {W : Wd} {x o : Str} {A B : List Str} {f s : List Hk} (G : Good N W) (h : SwapAt W x A o B f s) : Good N (folded W x A o B f s) := by
  obtain ⟨ne, nA, nB⟩ := swap_ne G h.w
  obtain ⟨l, l1, l2, m, r1, r2, r3, r4, z1, z2, z3, o1, o2, z4, z5⟩ := h.runs G
  have pf := G.pat _ _ h.f
  have ps := G.pat _ _ h.s
  obtain ⟨jv, ja⟩ := joinP_ok pf.v ps.v r2 r3
  obtain ⟨jl, jg, jn, _⟩ := app_len (i := 0) (by simpa using jv) ja
  have jp : PatOk N (joinP f s) := ⟨jv, app_ok ja o1 o2, by omega, by omega, by omega⟩
  have ato : (fun y => if y = x then none else setP W.pat o (joinP f s) y) o = some (joinP f s) := by
    show (if o = x then none else setP W.pat o (joinP f s) o) = _
    rw [if_neg (fun e => ne e.symm), setP_same]
  have oth : ∀ w, w ≠ x ∧ w ≠ o → (fun y => if y = x then none else setP W.pat o (joinP f s) y) w = W.pat w := fun w hw => by
    show (if w = x then none else setP W.pat o (joinP f s) w) = _
    rw [if_neg hw.1, setP_ne hw.2]
  have nd := G.nd
  have few := G.few
  have many := G.many
  rw [h.w] at nd few many
  have sub : (A ++ o :: B).Sublist (A ++ o :: x :: B) := List.Sublist.append (List.Sublist.refl _) (List.Sublist.cons_cons _ (List.sublist_cons_self _ _))
  have hm := h.m
  generalize hg : (fun y => if y = x then none else setP W.pat o (joinP f s) y) = g at ato oth
  have key : ∀ y, (g y).isSome = true ↔ y ∈ A ++ o :: B := fun y => by
    have k0 := G.key y
    rw [h.w] at k0
    by_cases e1 : y = o
    · subst e1; rw [ato]; simp
    · by_cases e2 : y = x
      · subst e2
        rw [← hg]
        simp only [if_true, Option.isSome_none]
        constructor
        · intro z; cases z
        · intro z
          rcases List.mem_append.mp z with z | z
          · exact absurd rfl (nA y z).1
          · rcases List.mem_cons.mp z with z | z
            · exact absurd z e1
            · exact absurd rfl (nB y z).1
      · rw [oth y ⟨e2, e1⟩, k0]
        simp [e1, e2]
  refine ⟨nd.sublist sub, ?_, ?_, ?_, G.okb, ?_, ?_, ?_, fun y hy => G.wok y (by rw [h.w]; exact sub.subset hy)⟩
  · show (A ++ o :: B).length ≤ N
    simp at few ⊢; omega
  · show ∀ y, ((fun y => if y = x then none else setP W.pat o (joinP f s) y) y).isSome = true ↔ y ∈ A ++ o :: B
    rw [hg]; exact key
  · show W.many - 1 ≤ (A ++ o :: B).length
    simp at many ⊢; omega
  · intro y p hy
    have hy2 : g y = some p := by rw [← hg]; exact hy
    clear hy
    by_cases e1 : y = o
    · subst e1; rw [ato] at hy2; cases hy2; exact jp
    · by_cases e2 : y = x
      · have := (key y).mp (by rw [hy2]; rfl)
        subst e2
        rcases List.mem_append.mp this with z | z
        · exact absurd rfl (nA y z).1
        · rcases List.mem_cons.mp z with z | z
          · exact absurd z e1
          · exact absurd rfl (nB y z).1
      · rw [oth y ⟨e2, e1⟩] at hy2; exact G.pat y p hy2
  · refine ⟨m, ?_⟩
    show run (fun y => if y = x then none else setP W.pat o (joinP f s) y) W.base ((A ++ o :: B).take (W.many - 1)) = some m
    rw [hg]
    have e2 : (A ++ o :: B).take (W.many - 1) = A ++ (o :: B.take (W.many - A.length - 2)) := by
      rw [List.take_append, List.take_of_length_le (show A.length ≤ W.many - 1 by omega)]
      congr 1
      rw [show W.many - 1 - A.length = (W.many - A.length - 2) + 1 by omega, List.take_succ_cons]
    rw [e2]
    refine run_app.mpr ⟨l, ?_, run_of ato ja ?_⟩
    · rw [run_congr fun w hw => oth w (nA w hw)]; exact r1
    · rw [run_congr fun w hw => oth w (nB w (List.mem_of_mem_take hw))]; exact r4
  · have sz := G.size
    rw [h.w, pot_app, pot_cons, pot_cons, h.f, h.s] at sz
    have sz : W.base.length + (pot W.pat A + (grow f + (grow s + pot W.pat B))) ≤ N := sz
    show W.base.length + pot (fun y => if y = x then none else setP W.pat o (joinP f s) y) (A ++ o :: B) ≤ N
    rw [hg, pot_app, pot_cons, ato, pot_congr (a := A) (g := W.pat) fun w hw => by rw [oth w (nA w hw)], pot_congr (a := B) (g := W.pat) fun w hw => by rw [oth w (nB w hw)]]
    show W.base.length + (pot W.pat A + (grow (joinP f s) + pot W.pat B)) ≤ N
    have : grow (joinP f s) ≤ grow f + grow s := by unfold grow; omega
    omega
/-! ### the base changed -/
def carryW (f : Str → Option (List Hk)) : List Str → List Hk → (Str → Option (List Hk)) → Str ⊕ (Str → Option (List Hk))
  | [], _, g => .inr g
  | w :: r, over, g => match f w with
    | some p => if touchB p over = true then .inl w else carryW f r (ovL over p) (setP g w (ovL p over))
    | none => .inl w
theorem touchB_comm {p o : List Hk} (t : touchB p o = false) : touchB o p = false := touchB_of fun h hh k hk => by rw [touch_comm]; exact touchB_no t k hk h hh
theorem carry_good {N : Nat} {f : Str → Option (List Hk)} (hv : ∀ x p, f x = some p → PatOk N p) : ∀ {ws : List Str} {over : List Hk} {g g' : Str → Option (List Hk)} {l l' m : List Str}, ws.Nodup → valid (-1) over = true → app 0 l over = some l' → run f l ws = some m → carryW f ws over g = .inr g' →
    (∃ m', run g' l' ws = some m') ∧ (∀ w, w ∉ ws → g' w = g w) ∧ ∀ w, w ∈ ws → ∃ p o', f w = some p ∧ g' w = some (ovL p o') ∧ valid (-1) (ovL p o') = true
  | [], over, g, g', l, l', m, _, _, _, _, h => by
    rw [carryW] at h; cases h
    exact ⟨⟨l', rfl⟩, fun _ _ => rfl, fun _ h => nomatch h⟩
  | w :: r, over, g, g', l, l', m, nd, vo, ha, hm, h => by
    obtain ⟨n1, n2⟩ := List.nodup_cons.mp nd
    obtain ⟨p, l1, q1, q2, q3⟩ := run_cons hm
    rw [carryW, q1] at h
    simp only [] at h
    have vp := (hv w p q1).v
    by_cases t : touchB p over = true
    · rw [if_pos t] at h; cases h
    · rw [if_neg t] at h
      have t : touchB p over = false := by simpa using t
      obtain ⟨z, z1, z2⟩ := diamond vp vo t q2 ha
      have IH := carry_good hv n2 (valid_carried vo vp (touchB_comm t)) z2 q3 h
      obtain ⟨⟨m', i1⟩, i2, i3⟩ := IH
      have atw : g' w = some (ovL p over) := by rw [i2 w n1, setP_same]
      refine ⟨⟨m', run_of atw z1 i1⟩, fun y hy => ?_, fun y hy => ?_⟩
      · rw [i2 y fun k => hy (List.mem_cons_of_mem _ k), setP_ne fun e => hy (by rw [e]; exact List.mem_cons_self)]
      · rcases List.mem_cons.mp hy with e | e
        · subst e
          exact ⟨p, over, q1, atw, valid_carried vp vo t⟩
        · exact i3 y e
theorem reb_good {N M : Nat} {W : Wd} {P : List Hk} {b : List Str} {g' : Str → Option (List Hk)} (G : Good N W) (hP : PatOk M P) (hb : app 0 W.base P = some b) (h : carryW W.pat (W.words.take W.many) P W.pat = .inr g') (hM : N + grow P ≤ M) : Good M { W with base := b, pat := g' } := by
  obtain ⟨m, hm⟩ := G.lin
  have ndt : (W.words.take W.many).Nodup := G.nd.sublist (List.take_sublist _ _)
  obtain ⟨c1, c2, c3⟩ := carry_good (N := N) G.pat ndt hP.v hb hm h
  obtain ⟨l1, _⟩ := app_len (i := 0) (by simpa using hP.v) hb
  have key : ∀ y, (g' y).isSome = true ↔ y ∈ W.words := fun y => by
    by_cases e : y ∈ W.words.take W.many
    · obtain ⟨p, o', h1, h2, _⟩ := c3 y e
      rw [h2]
      exact ⟨fun _ => List.mem_of_mem_take e, fun _ => rfl⟩
    · rw [c2 y e]; exact G.key y
  refine ⟨G.nd, by have := G.few; show W.words.length ≤ M; omega, key, G.many, app_okL hb G.okb hP.o, fun y p hy => ?_, c1, ?_, G.wok⟩
  · have hy : g' y = some p := hy
    by_cases e : y ∈ W.words.take W.many
    · obtain ⟨q, o', h1, h2, h3⟩ := c3 y e
      rw [h2] at hy; cases hy
      exact ((G.pat y q h1).ov h3).up (by omega)
    · rw [c2 y e] at hy
      exact (G.pat y p hy).up (by omega)
  · show b.length + pot g' W.words ≤ M
    have e : pot g' W.words = pot W.pat W.words := pot_congr fun y hy => by
      by_cases e : y ∈ W.words.take W.many
      · obtain ⟨q, o', h1, h2, h3⟩ := c3 y e
        rw [h2, h1]
        show grow (ovL q o') = grow q
        exact grow_ov
      · rw [c2 y e]
    rw [e]
    have := G.size
    unfold grow at hM
    omega
/-! ### added, popped, pushed -/
def addW (W : Wd) (x : Str) (p : List Hk) : Wd := { W with words := W.words.take W.many ++ [x] ++ W.words.drop W.many, pat := setP W.pat x p, many := W.many + 1 }
theorem add_good {N M : Nat} {W : Wd} {x : Str} {p : List Hk} {m n : List Str} (G : Good N W) (hx : x ∉ W.words) (wx : WordOk x) (hp : PatOk M p) (hm : run W.pat W.base (W.words.take W.many) = some m) (hn : app 0 m p = some n) (hM : N + grow p ≤ M) (hM2 : N + 1 ≤ M) : Good M (addW W x p) := by
  have perm : (W.words.take W.many ++ [x] ++ W.words.drop W.many).Perm (x :: W.words) := by
    have h1 : (W.words.take W.many ++ [x] ++ W.words.drop W.many).Perm (x :: (W.words.take W.many ++ W.words.drop W.many)) := by
      rw [List.append_assoc]
      exact List.perm_middle
    rwa [List.take_append_drop] at h1
  have mem : ∀ y, y ∈ W.words.take W.many ++ [x] ++ W.words.drop W.many ↔ y = x ∨ y ∈ W.words := fun y => by rw [perm.mem_iff, List.mem_cons]
  have oth : ∀ y, y ∈ W.words → setP W.pat x p y = W.pat y := fun y hy => setP_ne fun e => hx (by rw [← e]; exact hy)
  have many := G.many
  refine ⟨perm.nodup_iff.mpr (List.nodup_cons.mpr ⟨hx, G.nd⟩), ?_, fun y => ?_, ?_, G.okb, fun y q hy => ?_, ⟨n, ?_⟩, ?_, fun y hy => ?_⟩
  · show (W.words.take W.many ++ [x] ++ W.words.drop W.many).length ≤ M
    rw [perm.length_eq, List.length_cons]
    have := G.few; omega
  · show (setP W.pat x p y).isSome = true ↔ y ∈ W.words.take W.many ++ [x] ++ W.words.drop W.many
    rw [mem]
    by_cases e : y = x
    · rw [e, setP_same]; simp
    · rw [setP_ne e, G.key]; simp [e]
  · show W.many + 1 ≤ (W.words.take W.many ++ [x] ++ W.words.drop W.many).length
    rw [perm.length_eq, List.length_cons]; omega
  · have hy : setP W.pat x p y = some q := hy
    by_cases e : y = x
    · rw [e, setP_same] at hy; cases hy; exact hp
    · rw [setP_ne e] at hy; exact (G.pat y q hy).up (by omega)
  · show run (setP W.pat x p) W.base ((W.words.take W.many ++ [x] ++ W.words.drop W.many).take (W.many + 1)) = some n
    rw [take_len (by rw [List.length_append, List.length_take, List.length_singleton]; omega)]
    exact run_app.mpr ⟨m, by rw [run_congr fun w hw => oth w (List.mem_of_mem_take hw)]; exact hm, run_of setP_same hn rfl⟩
  · show W.base.length + pot (setP W.pat x p) (W.words.take W.many ++ [x] ++ W.words.drop W.many) ≤ M
    have e : pot (setP W.pat x p) (W.words.take W.many ++ [x] ++ W.words.drop W.many) = grow p + pot W.pat W.words := by
      have h1 : pot (setP W.pat x p) (W.words.take W.many ++ [x] ++ W.words.drop W.many) = pot (setP W.pat x p) (x :: W.words) := by
        unfold pot
        exact (perm.map _).sum_nat
      rw [h1, pot_cons, setP_same, pot_congr (g := W.pat) fun w hw => by rw [oth w hw]]
      rfl
    rw [e]
    have := G.size
    omega
  · rcases (mem y).mp hy with e | e
    · rw [e]; exact wx
    · exact G.wok y e
theorem pop_good {N n : Nat} {W : Wd} (G : Good N W) (h : W.many = n + 1) : Good N { W with many := n } := by
  refine ⟨G.nd, G.few, G.key, by show n ≤ W.words.length; have := G.many; omega, G.okb, G.pat, ?_, G.size, G.wok⟩
  obtain ⟨m, hm⟩ := G.lin
  have e : W.words.take W.many = W.words.take n ++ (W.words.drop n).take 1 := by rw [← List.take_add, h]
  rw [e] at hm
  obtain ⟨k, k1, _⟩ := run_app.mp hm
  exact ⟨k, k1⟩
theorem push_good {N : Nat} {W : Wd} {x : Str} {p : List Hk} {m n : List Str} (G : Good N W) (hx : W.words[W.many]? = some x) (hp : W.pat x = some p) (hm : run W.pat W.base (W.words.take W.many) = some m) (hn : app 0 m p = some n) : Good N { W with many := W.many + 1 } := by
  have hl := (List.getElem?_eq_some_iff.mp hx).1
  refine ⟨G.nd, G.few, G.key, hl, G.okb, G.pat, ⟨n, ?_⟩, G.size, G.wok⟩
  show run W.pat W.base (W.words.take (W.many + 1)) = some n
  have e : W.words.take (W.many + 1) = W.words.take W.many ++ [x] := by
    rw [List.take_add_one, hx]; rfl
  rw [e]
  exact run_app.mpr ⟨m, hm, run_of hp hn rfl⟩
/-! ### all together -/
noncomputable def wholeW (f : Str → Option (List Hk)) : List Hk → List Str → List Hk
  | acc, [] => acc
  | acc, w :: r => match f w with
    | some p => wholeW f (joinP acc p) r
    | none => acc
theorem whole_ok {f : Str → Option (List Hk)} (hv : ∀ x p, f x = some p → valid (-1) p = true) : ∀ {ws : List Str} {acc : List Hk} {l k m : List Str}, valid (-1) acc = true → app 0 l acc = some k → run f k ws = some m → valid (-1) (wholeW f acc ws) = true ∧ app 0 l (wholeW f acc ws) = some m
  | [], acc, l, k, m, va, h1, h2 => by rw [run] at h2; cases h2; exact ⟨va, h1⟩
  | w :: r, acc, l, k, m, va, h1, h2 => by
    obtain ⟨p, k', q1, q2, q3⟩ := run_cons h2
    obtain ⟨a, b⟩ := joinP_ok va (hv w p q1) h1 q2
    rw [wholeW, q1]
    exact whole_ok hv a b q3
/-! ### what hangs -/
abbrev Rows := List (Str × List Hk)
def pastR : List Hk → Rows → Option Rows
  | _, [] => some []
  | p, (w, o) :: r => if touchB o (back p) = true then none else (pastR (ovL p (ovL o (back p))) r).map ((w, ovL o (back p)) :: ·)
def hangR (f : Str → Option (List Hk)) : List Str → Rows → List Str → List Str
  | [], _, found => found
  | o :: r, kept, found => match f o with
    | some p => match pastR p kept with
      | some m => hangR f r m found
      | none => hangR f r ((o, p) :: kept) (o :: found)
    | none => found
theorem past_step {N : Nat} {p o : List Hk} (hp : PatOk N p) (ho : PatOk N o) (t : touchB o (back p) = false) : touchB p (ovL o (back p)) = false ∧ PatOk N (ovL o (back p)) ∧ PatOk N (ovL p (ovL o (back p))) := by
  obtain ⟨r1, r2⟩ := ovL_round hp.v (s := o) (fun h hh => valid_gt ho.v h hh) (touchB_no t)
  have t2 : touchB p (ovL o (back p)) = false := touchB_of fun h hh k hk => by rw [touch_comm]; exact r2 k hk h hh
  have va := valid_carried ho.v (valid_back hp.v) t
  exact ⟨t2, ho.ov va, hp.ov (valid_carried hp.v va t2)⟩
theorem past_ok {N : Nat} : ∀ {r r' : Rows} {p : List Hk}, PatOk N p → (∀ e ∈ r, PatOk N e.2) → pastR p r = some r' → (∀ e ∈ r', PatOk N e.2) ∧ r'.length = r.length ∧ r'.map (·.1) = r.map (·.1)
  | [], r', p, _, _, h => by rw [pastR] at h; cases h; exact ⟨(fun _ h => nomatch h), rfl, rfl⟩
  | (w, o) :: r, r', p, hp, hr, h => by
    rw [pastR] at h
    by_cases t : touchB o (back p) = true
    · rw [if_pos t] at h; cases h
    · rw [if_neg t] at h
      obtain ⟨_, b, c⟩ := past_step hp (hr (w, o) List.mem_cons_self) (by simpa using t)
      cases q : pastR (ovL p (ovL o (back p))) r with
      | none => rw [q] at h; cases h
      | some r2 =>
        rw [q] at h
        cases h
        obtain ⟨d1, d2, d3⟩ := past_ok c (fun e he => hr e (List.mem_cons_of_mem _ he)) q
        refine ⟨fun e he => ?_, by simp [d2], by simp [d3]⟩
        rcases List.mem_cons.mp he with z | z
        · rw [z]; exact b
        · exact d1 e z
end Ab


namespace Ab
open PySem L2
structure Held (W : Wd) (ks : List (Str × D)) : Prop where
  p : Pats ks W.pat
  l : ks.length ≤ W.words.length
  n : ∀ e ∈ ks, nd e.2 = true
theorem nd_strs : ∀ {l : List Str}, nds (l.map D.str) = true
  | [] => rfl
  | _ :: r => by rw [List.map_cons, nds, nd_strs]; rfl
theorem nd_pa {p : List Hk} : nd (paD p) = true := by
  show nds (p.map hkD) = true
  induction p with
  | nil => rfl
  | cons h r ih =>
    rw [List.map_cons, nds, ih]
    show nds [.int h.s, strsD h.g, strsD h.c] && true = true
    simp only [nds, nd, strsD, nd_strs]
    rfl
theorem nd_put {ks : List (Str × D)} {k : Str} {d : D} (h : ∀ e ∈ ks, nd e.2 = true) (hd : nd d = true) : ∀ e ∈ putD ks k d, nd e.2 = true := by
  intro e he
  unfold putD at he
  split at he
  · obtain ⟨x, hx, rfl⟩ := List.mem_map.mp he
    split
    · exact hd
    · exact h x hx
  · rcases List.mem_append.mp he with z | z
    · exact h e z
    · rw [List.mem_singleton.mp z]; exact hd
theorem flat_words : ∀ {ws : List Str}, (ws.map D.str).all flatD = true
  | [] => rfl
  | _ :: r => by rw [List.map_cons, List.all_cons, flat_words]; rfl
theorem at_words {ws : List Str} {x : Str} (h : x ∈ ws) : (ws.map D.str)[idx x ws]? = some (.str x) := by rw [List.getElem?_map, idx_at h]; rfl
theorem no_words {ws : List Str} {x : Str} {m : Nat} (h : m < idx x ws) : (ws.map D.str)[m]? ≠ some (.str x) := fun e => by
  rw [List.getElem?_map] at e
  cases q : ws[m]? with
  | none => rw [q] at e; cases e
  | some y => rw [q] at e; cases e; exact idx_no h q
theorem putD_same {ks : List (Str × D)} {k : Str} {d : D} (h : (lookD ks k).isSome = true) : (putD ks k d).length = ks.length := by
  unfold putD; rw [if_pos h, List.length_map]
theorem Pats.some {ks : List (Str × D)} {f : Str → Option (List Hk)} (h : Pats ks f) {x : Str} {p : List Hk} (e : f x = some p) : lookD ks x = some (paD p) := by rw [h, e]; rfl
/-- same ints -/
theorem same_int {i j : Int} : same (.int i) (.int j) = decide (i = j) := same_of (by simp)
theorem many_len {N : Nat} {W : Wd} (G : Good N W) (hN : N ≤ 100) : W.words.length < sizeLine := by have := G.few; rw [sizeLine_eq]; omega
theorem pat_len {N : Nat} {W : Wd} (G : Good N W) (hN : N ≤ 100) {x : Str} {p : List Hk} (h : W.pat x = some p) : p.length < sizeLine := by have := (G.pat x p h).l; rw [sizeLine_eq]; omega
def fSwapS : FD := fun EA xs S P => ∃ N W ks x, xs = [.stk, .im (.str x)] ∧ S = some (stk W ks) ∧ Held W ks ∧ Good N W ∧ N ≤ 100 ∧ x.length ≤ 1000 ∧ (isWord x = false → EA (.invName x) S) ∧
  (isWord x = true → (swapW W x = .no → EA .noSuch S) ∧ (swapW W x = .ref → EA (.refused x) S) ∧ ∀ W', swapW W x = .ok W' → ∀ ks', Held W' ks' → P .non (some (stk W' ks')))
def fWholeS : FD := fun _ xs S P => ∃ N W ks, xs = [.stk] ∧ S = some (stk W ks) ∧ Held W ks ∧ Good N W ∧ N ≤ 100 ∧ P (paD (wholeW W.pat [] (W.words.take W.many))) S
def isOk : Sw → Bool
  | .ok _ => true
  | _ => false
def fCanS : FD := fun EA xs S P => ∃ N W ks x, xs = [.stk, .im (.str x)] ∧ S = some (stk W ks) ∧ Held W ks ∧ Good N W ∧ N ≤ 100 ∧ x.length ≤ 1000 ∧ (isWord x = false → EA (.invName x) S) ∧
  (isWord x = true → (x ∉ W.words → EA .noSuch S) ∧ (x ∈ W.words → P (.bl (isOk (swapW W x))) S))
theorem no_of {N : Nat} {W : Wd} (G : Good N W) {x : Str} (h : x ∉ W.words) : swapW W x = .no ∧ W.pat x = none := by
  have := G.many
  have h2 : ¬ idx x W.words < W.words.length := fun z => h (idx_lt.mp z)
  refine ⟨by unfold swapW; rw [if_pos (.inr (by omega))], ?_⟩
  cases e : W.pat x with
  | none => rfl
  | some p => exact absurd ((G.key x).mp (by rw [e]; rfl)) h
/-- place == 0 or place >= self.many -/
theorem rd_edge {E : XA} {a : Ab.A} {P : Bool → Ab.A → Prop} {i n m : Nat} {S : Stk} (ha : a.ρ[i]? = some (some (.im (.int (n : Nat))))) (h0 : a.ρ[0]? = some (some .stk)) (hS : a.S = some S) (hm : S.many = (m : Nat)) (h1 : (n = 0 ∨ m ≤ n) → P true a) (h2 : ¬ (n = 0 ∨ m ≤ n) → P false a) :
    fOr (tB (fOp FEq (fVar i) (fC (.int 0)))) (tB (fOp FGe (fVar i) (fAt 0 .many))) E a P := by
  unfold fOr tB fOp fVar fC fAt
  rw [ha]
  refine ⟨rfl, rfl, ?_⟩
  show if same (.int (n : Nat)) (.int 0) = true then _ else _
  rw [same_int]
  refine ite2 (fun c => ?_) (fun c => ?_)
  · exact h1 (.inl (by simpa using c))
  · have c : ¬ (n : Int) = 0 := by simpa using c
    rw [ha]
    simp only [h0, hS]
    show P (decide (S.many ≤ (n : Int))) a
    rw [hm]
    by_cases d : m ≤ n
    · rw [decide_eq_true (by omega)]; exact h1 (.inr d)
    · rw [decide_eq_false (by omega)]; exact h2 (by omega)
theorem seqI {s t : FS} {En : AEnds} {a : Ab.A} (h : s { En with nx := t En } a) : sSeq s t En a := h
theorem rd_edgeS {s t : FS} {En : AEnds} {a : Ab.A} {i n m : Nat} {S : Stk} (ha : a.ρ[i]? = some (some (.im (.int (n : Nat))))) (h0 : a.ρ[0]? = some (some .stk)) (hS : a.S = some S) (hm : S.many = (m : Nat)) (h1 : (n = 0 ∨ m ≤ n) → s En a) (h2 : ¬ (n = 0 ∨ m ≤ n) → t En a) :
    sIf (fOr (tB (fOp FEq (fVar i) (fC (.int 0)))) (tB (fOp FGe (fVar i) (fAt 0 .many)))) s t En a := by
  unfold sIf
  refine rd_edge ha h0 hS hm (fun c => ?_) (fun c => ?_)
  · rw [if_pos rfl]; exact h1 c
  · rw [if_neg Bool.false_ne_true]; exact h2 c
theorem SwapAt.cuts {W : Wd} {x o : Str} {A B : List Str} {f s : List Hk} (h : SwapAt W x A o B f s) : cutD (W.words.map D.str) none (some ((idx x W.words : Nat) - 1 : Int)) = A.map D.str ∧ cutD (W.words.map D.str) (some ((idx x W.words : Nat) + 1 : Int)) none = B.map D.str := by
  have hi := h.i
  constructor
  · rw [show ((idx x W.words : Nat) - 1 : Int) = (A.length : Nat) by omega, cutD_take, ← List.map_take, h.w, take_len rfl]
  · rw [cutD_end (by omega), ← List.map_drop, show ((idx x W.words : Nat) + 1 : Int).toNat = A.length + 2 by omega, h.w, show A ++ o :: x :: B = (A ++ [o, x]) ++ B by simp, drop_len (by simp)]
section
variable {P : Program} {w : World} {K : PySem.W.Frag} {mg : Str → Option Value} {base : Heap} {Z : Cl}
abbrev s_can_swap : Stmt := inClass (top 24) 8
abbrev n_can_swap : List Str := ["self", "word", "place"]
theorem sc_can_swap : FnScope n_can_swap ["self", "word"] (defScope s_can_swap) := ⟨rfl, rfl, rfl, by decide +kernel, rfl, by decide +kernel, by decide +kernel⟩
theorem ok_can_swap {f : Addr} {fd : FuncData} (Fn : Fun K "can_swap" "Stack.can_swap" s_can_swap f fd) (Tb : Blt mg) (Te : Errs P K mg Z) (Ts : StkTxt K Z) (M_check : Mtd P w K mg base Z 2 "check" 2 fCheck) (D_commuted : Dfn P w K mg base Z 3 "commuted" 2 fCommuted) : FnOk P w K mg base (L2.CX P w) 4 f fd ["self", "word"] (spA Z 2 fCanS) := by
  refine aok Fn sc_can_swap rfl fun cdv A outer s H E hr => ?_
  have tk := takes_of (X := cxOf (L2.CX P w) P w K mg base n_can_swap "Stack.can_swap" (defScope s_can_swap) f cdv A outer s H E) rfl rfl rfl rfl
  have hu := hu64 hr
  have hu1 := hu2 hr
  refine ⟨_, (ss_cons (s_expr (ams 0 Ts M_check hr (by decide) tk (aa_cons (av 1) aa_nil)))
    (ss_cons (s_set 2 (aidx (aat 0 .words Ts) (av 1)) sc_can_swap.nd)
    (ss_cons (s_if (wor (tcmp (ao_eq hu) (av 2) ai (nomark _)) (wor1 (tcmp ao_ge (av 2) (aat 0 .many Ts) (nomark _)))).at
      (ss_one (s_ret ab))
      ss_nil)
    (ss_one (s_ret (acmp ao_notN (acl D_commuted hr (by decide) tk (aa_cons (aget hu1 (kat 0 Ts) (qix (qat 0 .words Ts) (qsub (qv 2) qi))) (aa_cons (aget hu1 (kat 0 Ts) (qv 1)) aa_nil)) (by rfl)) an (nomark _))))))), fun EA xs S Q h hn => ?_⟩
  obtain ⟨N, W, ks, x, rfl, rfl, hh, G, hN, hx, k1, k2⟩ := h
  refine ⟨rfl, W, ks, x, rfl, rfl, hh.p, hx, k1, fun e1 e2 => (k2 e1).1 fun z => ?_, fun p e1 e2 => ?_⟩
  · obtain ⟨q, hq⟩ := G.at z
    rw [e2] at hq; cases hq
  have hm : x ∈ W.words := (G.key x).mp (by rw [e2]; rfl)
  have k3 := (k2 e1).2 hm
  refine ⟨flat_words, rfl, idx x W.words, at_words hm, fun m h => no_words h, ?_⟩
  rcases swap_cases G x with ⟨e, c⟩ | ⟨A, o, B, f, s, h1, hsw⟩
  · dsimp only []
    refine seqI ?_
    refine rd_edgeS (n := idx x W.words) (m := W.many) (S := stk W ks) rfl rfl rfl rfl (fun _ => ?_) (fun d => absurd c d)
    show Q (.bl false) _
    rw [e] at k3
    exact k3
  · have hi := h1.i
    have hm2 := h1.m
    dsimp only []
    refine seqI ?_
    refine rd_edgeS (n := idx x W.words) (m := W.many) (S := stk W ks) rfl rfl rfl rfl (fun d => by omega) (fun _ => ?_)
    refine ⟨.str o, ?_, paD f, hh.p.some h1.f, paD s, hh.p.some h1.s, rfl, f, s, rfl, pat_len G hN h1.f, pat_len G hN h1.s, ?_⟩
    · show atI (W.words.map D.str) ((idx x W.words : Nat) - 1 : Int) = _
      rw [show ((idx x W.words : Nat) - 1 : Int) = (A.length : Nat) by omega, atI_nat (by rw [h1.w]; simp), h1.w]
      simp
    · rcases hsw with ⟨t, e⟩ | ⟨t, e⟩
      · rw [e] at k3
        exact .inl ⟨t, k3⟩
      · rw [e] at k3
        obtain ⟨t2, va, vb⟩ := h1.no2 G t
        exact .inr ⟨_, _, t, carL_ovL (valid_back (G.pat _ _ h1.f).v) t, t2, carL_ovL va t2, k3⟩
abbrev s_swap : Stmt := inClass (top 24) 6
abbrev n_swap : List Str := ["self", "word", "place", "other", "made"]
theorem sc_swap : FnScope n_swap ["self", "word"] (defScope s_swap) := ⟨rfl, rfl, rfl, by decide +kernel, rfl, by decide +kernel, by decide +kernel⟩
theorem ok_swap {f : Addr} {fd : FuncData} (Fn : Fun K "swap" "Stack.swap" s_swap f fd) (Tb : Blt mg) (Te : Errs P K mg Z) (Ts : StkTxt K Z) (M_check : Mtd P w K mg base Z 2 "check" 2 fCheck) (D_commuted : Dfn P w K mg base Z 3 "commuted" 2 fCommuted) : FnOk P w K mg base (L2.CX P w) 4 f fd ["self", "word"] (spA Z 2 fSwapS) := by
  refine aok Fn sc_swap rfl fun cdv A outer s H E hr => ?_
  have tk := takes_of (X := cxOf (L2.CX P w) P w K mg base n_swap "Stack.swap" (defScope s_swap) f cdv A outer s H E) rfl rfl rfl rfl
  have hu := hu64 hr
  have hu1 := hu2 hr
  refine ⟨_, (ss_cons (s_expr (ams 0 Ts M_check hr (by decide) tk (aa_cons (av 1) aa_nil)))
    (ss_cons (s_set 2 (aidx (aat 0 .words Ts) (av 1)) sc_swap.nd)
    (ss_cons (s_if (wor (tcmp (ao_eq hu) (av 2) ai (nomark _)) (wor1 (tcmp ao_ge (av 2) (aat 0 .many Ts) (nomark _)))).at
      (ss_one (s_no Te rfl tk (by rfl)))
      ss_nil)
    (ss_cons (s_set 3 (aix (aat 0 .words Ts) (ao ao_sub (av 2) ai)) sc_swap.nd)
    (ss_cons (s_set 4 (acl D_commuted hr (by decide) tk (aa_cons (aget hu1 (kat 0 Ts) (qv 3)) (aa_cons (aget hu1 (kat 0 Ts) (qv 1)) aa_nil)) (by rfl)) sc_swap.nd)
    (ss_cons (s_if (tcmp ao_isN (av 4) an (nomark _))
      (ss_one (s_rf Te hr rfl tk (av 1) (by rfl)))
      ss_nil)
    (ss_cons (s_two 0 Ts hu1 rfl (qv 1) (qv 3) (av 4))
    (ss_one (s_fld 0 .words Ts (ao ao_add (ao ao_add (asl (aat 0 .words Ts) ono (oso (ao ao_sub (av 2) ai))) (anew (alst (aa_cons (av 1) (aa_cons (av 3) aa_nil))))) (asl (aat 0 .words Ts) (oso (ao ao_add (av 2) ai)) ono))))))))))), fun EA xs S Q h hn => ?_⟩
  obtain ⟨N, W, ks, x, rfl, rfl, hh, G, hN, hx, k1, k2⟩ := h
  refine ⟨rfl, W, ks, x, rfl, rfl, hh.p, hx, k1, fun e1 e2 => (k2 e1).1 (no_of G fun z => ?_).1, fun p e1 e2 => ?_⟩
  · obtain ⟨q, hq⟩ := G.at z
    rw [e2] at hq; cases hq
  have hm : x ∈ W.words := (G.key x).mp (by rw [e2]; rfl)
  obtain ⟨k3, k4, k5⟩ := k2 e1
  refine ⟨flat_words, rfl, idx x W.words, at_words hm, fun m h => no_words h, ?_⟩
  rcases swap_cases G x with ⟨e, c⟩ | ⟨A, o, B, f, s, h1, hsw⟩
  · dsimp only []
    refine seqI ?_
    refine rd_edgeS (n := idx x W.words) (m := W.many) (S := stk W ks) rfl rfl rfl rfl (fun _ => ?_) (fun d => absurd c d)
    exact k3 e
  · have hi := h1.i
    have hm2 := h1.m
    dsimp only []
    refine seqI ?_
    refine rd_edgeS (n := idx x W.words) (m := W.many) (S := stk W ks) rfl rfl rfl rfl (fun d => by omega) (fun _ => ?_)
    refine ⟨.str o, ?_, paD f, hh.p.some h1.f, paD s, hh.p.some h1.s, rfl, f, s, rfl, pat_len G hN h1.f, pat_len G hN h1.s, ?_⟩
    · show atI (W.words.map D.str) ((idx x W.words : Nat) - 1 : Int) = _
      rw [show ((idx x W.words : Nat) - 1 : Int) = (A.length : Nat) by omega, atI_nat (by rw [h1.w]; simp), h1.w]
      simp
    · rcases hsw with ⟨t, e⟩ | ⟨t, e⟩
      · refine .inl ⟨t, ?_⟩
        exact ⟨.refused x, rfl, k4 e⟩
      · obtain ⟨t2, va, vb⟩ := h1.no2 G t
        refine .inr ⟨_, _, t, carL_ovL (valid_back (G.pat _ _ h1.f).v) t, t2, carL_ovL va t2, ?_⟩
        have l1 := hh.l
        have l2 := many_len G hN
        have l3 : (putD ks x (paD (ovL s (back f)))).length = ks.length := putD_same (by rw [hh.p.some h1.s]; rfl)
        have l4 : (putD (putD ks x (paD (ovL s (back f)))) o (paD (ovL f (ovL s (back f))))).length = ks.length := by
          rw [putD_same, l3]
          rw [lookD_put]
          split
          · rfl
          · rw [hh.p.some h1.f]; rfl
        refine ⟨by show ks.length + 1 < sizeLine; have := G.few; rw [sizeLine_eq]; omega, ?_⟩
        obtain ⟨ep, eb⟩ := h1.cuts
        have lw := congrArg List.length h1.w
        rw [List.length_append, List.length_cons, List.length_cons] at lw
        refine ⟨sz3 (show 2 ≤ 1000 by decide), ?_, ?_, ⟨strsD W.base, .lst (cutD (W.words.map D.str) none (some ((idx x W.words : Nat) - 1 : Int)) ++ [D.str x, D.str o] ++ cutD (W.words.map D.str) (some ((idx x W.words : Nat) + 1 : Int)) none), putD (putD ks x (paD (ovL s (back f)))) o (paD (ovL f (ovL s (back f)))), (W.many : Nat)⟩, rfl, ?_⟩
        · show (cutD (W.words.map D.str) none (some ((idx x W.words : Nat) - 1 : Int))).length + 2 ≤ _
          rw [ep, List.length_map]; omega
        · show (cutD (W.words.map D.str) none (some ((idx x W.words : Nat) - 1 : Int)) ++ [D.str x, D.str o]).length + (cutD (W.words.map D.str) (some ((idx x W.words : Nat) + 1 : Int)) none).length ≤ _
          rw [ep, eb, List.length_append, List.length_map, List.length_map]; simp only [List.length_cons, List.length_nil]; omega
        · rw [ep, eb]
          have := k5 _ e (putD (putD ks x (paD (ovL s (back f)))) o (paD (ovL f (ovL s (back f))))) ⟨(hh.p.set x _).set o _, by rw [l4]; show ks.length ≤ (A ++ [x, o] ++ B).length; simp; omega, nd_put (nd_put hh.n nd_pa) nd_pa⟩
          unfold stk swapped at this
          simp only [List.map_append] at this
          exact this
abbrev s_whole : Stmt := inClass (top 24) 15
abbrev n_whole : List Str := ["self", "found", "word"]
theorem sc_whole : FnScope n_whole ["self"] (defScope s_whole) := ⟨rfl, rfl, rfl, by decide +kernel, rfl, by decide +kernel, by decide +kernel⟩
theorem ok_whole {f : Addr} {fd : FuncData} (Fn : Fun K "whole" "Stack.whole" s_whole f fd) (Ts : StkTxt K Z) (D_joined : Dfn P w K mg base Z 2 "joined" 2 fJoined) : FnOk P w K mg base (L2.CX P w) 3 f fd ["self"] (spA Z 1 fWholeS) := by
  refine aok Fn sc_whole rfl fun cdv A outer s H E hr => ?_
  have hp := passes_of (X := cxOf (L2.CX P w) P w K mg base n_whole "Stack.whole" (defScope s_whole) f cdv A outer s H E) rfl
  have tk := takes_of (X := cxOf (L2.CX P w) P w K mg base n_whole "Stack.whole" (defScope s_whole) f cdv A outer s H E) rfl rfl rfl rfl
  have hu1 := hu2 hr
  refine ⟨_, (ss_cons (s_set 1 (atup aa_nil) sc_whole.nd)
    (ss_cons (s_for hp rfl (i_l (asl (aat 0 .words Ts) ono (oso (aat 0 .many Ts)))) (g_nm 2 sc_whole.nd)
      (ss_one (s_set 1 (acl D_joined hr (by decide) tk (aa_cons (av 1) (aa_cons (aget hu1 (kat 0 Ts) (qv 2)) aa_nil)) (by rfl)) sc_whole.nd)))
    (ss_one (s_ret (av 1))))), fun EA xs S Q h hn => ?_⟩
  obtain ⟨N, W, ks, rfl, rfl, hh, G, hN, h⟩ := h
  obtain ⟨m, hm⟩ := G.lin
  refine ⟨Nat.zero_le _, ?_⟩
  dsimp only []
  refine seqI ?_
  show forA _ _ (cutD (W.words.map .str) none (some (W.many : Int))) _ _
  rw [cutD_take, ← List.map_take]
  refine forA_inv D.str (fun r a => ∃ (acc : List Hk) (k : List Str) (r2 : Option AV), valid (-1) acc = true ∧ OkP acc ∧ okL k ∧ app 0 W.base acc = some k ∧ k.length + pot W.pat r ≤ N ∧ run W.pat k r = some m ∧ wholeW W.pat acc r = wholeW W.pat [] (W.words.take W.many) ∧ a = ⟨[some .stk, some (.im (paD acc)), r2], some (stk W ks)⟩) ?_ ?_ _ _ ⟨[], W.base, _, rfl, fun _ h => (nomatch h), G.okb, rfl, ?_, hm, rfl, rfl⟩
  · rintro x r a N' ⟨acc, k, r2, va, oa, ok, ha, hz, hr', hw, rfl⟩ hN'
    obtain ⟨p, k', q1, q2, q3⟩ := run_cons hr'
    have hp := G.pat x p q1
    have gs := G.size
    rw [pot_cons, q1] at hz
    have hz : k.length + (grow p + pot W.pat r) ≤ N := hz
    obtain ⟨b1, _⟩ := app_len (i := 0) (by simpa using hp.v) q2
    have z2 : k'.length + pot W.pat r ≤ N := by unfold grow at hz; omega
    rw [wholeW, q1] at hw
    refine ⟨paD p, hh.p.some q1, rfl, joined_of ⟨acc, p, W.base, k, k', rfl, va, hp.v, oa, hp.o, ha, q2, by omega, by omega, by omega, ?_⟩⟩
    obtain ⟨j1, j2⟩ := joinP_ok va hp.v ha q2
    have ok' := app_okL q2 ok hp.o
    exact hN' _ ⟨joinP acc p, k', _, j1, app_ok j2 G.okb ok', ok', j2, z2, q3, hw, rfl⟩
  · rintro a ⟨acc, k, r2, va, oa, ok, ha, hz, hr', hw, rfl⟩
    rw [wholeW] at hw
    rw [← hw] at h
    exact h
  · have := pot_take (f := W.pat) (a := W.words) (n := W.many)
    have := G.size
    omega
end
end Ab


namespace Ab
open PySem L2
def fSinkS : FD := fun EA xs S P => ∃ N W ks x, xs = [.stk, .im (.str x)] ∧ S = some (stk W ks) ∧ Held W ks ∧ Good N W ∧ N ≤ 100 ∧ x.length ≤ 1000 ∧ isWord x = true ∧ (x ∉ W.words → EA .noSuch S) ∧
  (x ∈ W.words → ∀ ks', Held (sinkW (idx x W.words) W x).1 ks' → P (.int ((sinkW (idx x W.words) W x).2 : Nat)) (some (stk (sinkW (idx x W.words) W x).1 ks')))
/-- 0 < x < m -/
theorem rd_between {E : XA} {a : Ab.A} {P : Bool → Ab.A → Prop} {g h : FE} {n m : Nat} (hg : ∀ Q : D → Ab.A → Prop, Q (.int (n : Nat)) a → g E a Q) (hh : ∀ Q : D → Ab.A → Prop, Q (.int (m : Nat)) a → h E a Q) (h1 : 0 < n → n < m → P true a) (h2 : ¬ (0 < n ∧ n < m) → P false a) :
    tB (fChain FLt FLt (fC (.int 0)) g h) E a P := by
  unfold tB fChain fC
  refine hg _ ?_
  show (match D.bl (decide ((0 : Int) < (n : Nat))) with | .bl true => _ | .bl false => _ | _ => False)
  by_cases c : 0 < n
  · rw [decide_eq_true (by omega)]
    refine hh _ ?_
    show P (decide ((n : Int) < (m : Nat))) a
    by_cases d : n < m
    · rw [decide_eq_true (by omega)]; exact h1 c d
    · rw [decide_eq_false (by omega)]; exact h2 fun z => d z.2
  · rw [decide_eq_false (by omega)]
    exact h2 fun z => c z.1
section
variable {P : Program} {w : World} {K : PySem.W.Frag} {mg : Str → Option Value} {base : Heap} {Z : Cl}
abbrev s_sink : Stmt := inClass (top 24) 7
abbrev n_sink : List Str := ["self", "word", "found"]
theorem sc_sink : FnScope n_sink ["self", "word"] (defScope s_sink) := ⟨rfl, rfl, rfl, by decide +kernel, rfl, by decide +kernel, by decide +kernel⟩
theorem ok_sink {f : Addr} {fd : FuncData} (Fn : Fun K "sink" "Stack.sink" s_sink f fd) (Tb : Blt mg) (Te : Errs P K mg Z) (Ts : StkTxt K Z) (M_check : Mtd P w K mg base Z 2 "check" 2 fCheck) (M_can_swap : Mtd P w K mg base Z 4 "can_swap" 2 fCanS) (M_swap : Mtd P w K mg base Z 4 "swap" 2 fSwapS) : FnOk P w K mg base (L2.CX P w) 5 f fd ["self", "word"] (spA Z 2 fSinkS) := by
  refine aok Fn sc_sink rfl fun cdv A outer s H E hr => ?_
  have hp := passes_of (X := cxOf (L2.CX P w) P w K mg base n_sink "Stack.sink" (defScope s_sink) f cdv A outer s H E) rfl
  have tk := takes_of (X := cxOf (L2.CX P w) P w K mg base n_sink "Stack.sink" (defScope s_sink) f cdv A outer s H E) rfl rfl rfl rfl
  refine ⟨_, (ss_cons (s_expr (ams 0 Ts M_check hr (by decide) tk (aa_cons (av 1) aa_nil)))
    (ss_cons (s_set 2 ai sc_sink.nd)
    (ss_cons (s_while hp (wand (tchain ao_lt ao_lt ai (aidx (aat 0 .words Ts) (av 1)) (aat 0 .many Ts)) (wand1 (tval (ams 0 Ts M_can_swap hr (by decide) tk (aa_cons (av 1) aa_nil))))).at
      (ss_cons (s_expr (ams 0 Ts M_swap hr (by decide) tk (aa_cons (av 1) aa_nil)))
      (ss_one (s_aug 2 ao_iadd ai sc_sink.nd))))
    (ss_one (s_ret (av 2)))))), fun EA xs S Q h hn => ?_⟩
  obtain ⟨N, W, ks, x, rfl, rfl, hh, G, hN, hx, hw, k1, k2⟩ := h
  refine ⟨rfl, W, ks, x, rfl, rfl, hh.p, hx, fun e => (by rw [hw] at e; cases e), fun e1 e2 => k1 fun z => ?_, fun p e1 e2 => ?_⟩
  · obtain ⟨q, hq⟩ := G.at z
    rw [e2] at hq; cases hq
  have hm : x ∈ W.words := (G.key x).mp (by rw [e2]; rfl)
  have k3 := k2 hm
  generalize hR : sinkW (idx x W.words) W x = R at k3
  refine ⟨fun m a => ∃ (W' : Wd) (ks' : List (Str × D)) (c : Nat), a = ⟨[some .stk, some (.im (.str x)), some (.im (.int (c : Nat)))], some (stk W' ks')⟩ ∧ Good N W' ∧ Held W' ks' ∧ x ∈ W'.words ∧ m = idx x W'.words ∧ (sinkW m W' x).1 = R.1 ∧ c + (sinkW m W' x).2 = R.2, ⟨_, W, ks, 0, rfl, G, hh, hm, rfl, by rw [hR], by rw [hR]; omega⟩, ?_⟩
  rintro m a ⟨W', ks', c, rfl, G', hh', hm', rfl, e3, e4⟩
  have fin : sinkW (idx x W'.words) W' x = (W', 0) → Q (.int (c : Nat)) (some (stk W' ks')) := fun e => by
    rw [e] at e3 e4
    have := k3 ks' (by rw [← e3]; exact hh')
    rw [← e3, ← e4] at this
    exact this
  refine rd_between (n := idx x W'.words) (m := W'.many) (fun Q hQ => ⟨flat_words, rfl, idx x W'.words, at_words hm', fun m h => no_words h, hQ⟩) (fun Q hQ => hQ) (fun c1 c2 => ?_) (fun c1 => ?_)
  · dsimp only []
    rw [if_pos rfl]
    refine ⟨rfl, N, W', ks', x, rfl, rfl, hh', G', hN, hx, fun e => (by rw [hw] at e; cases e), fun _ => ⟨fun z => absurd hm' z, fun _ => ?_⟩⟩
    dsimp only []
    obtain ⟨i, hi⟩ := Nat.exists_eq_succ_of_ne_zero (show idx x W'.words ≠ 0 by omega)
    have hi : idx x W'.words = i + 1 := hi
    cases e : swapW W' x with
    | ok W2 =>
      obtain ⟨g1, g2, g3, g4, g5, g6, g7⟩ := swap_ok G' e
      show (if isOk (.ok W2) = true then _ else _)
      rw [show isOk (.ok W2) = true from rfl, if_pos rfl]
      refine ⟨rfl, N, W', ks', x, rfl, rfl, hh', G', hN, hx, fun e => (by rw [hw] at e; cases e), fun _ => ⟨fun z => (by rw [e] at z; cases z), fun z => (by rw [e] at z; cases z), fun W3 z ks3 hh3 => ?_⟩⟩
      rw [e] at z; cases z
      rw [hi, sinkW, e] at e3 e4
      refine ⟨i, by omega, W2, ks3, c + 1, rfl, g1, hh3, (g7 x).mpr hm', by omega, e3, ?_⟩
      simp only [] at e4
      omega
    | no =>
      show (if isOk .no = true then _ else _)
      rw [show isOk .no = false from rfl, if_neg Bool.false_ne_true]
      exact fin (by rw [hi, sinkW, e])
    | ref =>
      show (if isOk .ref = true then _ else _)
      rw [show isOk .ref = false from rfl, if_neg Bool.false_ne_true]
      exact fin (by rw [hi, sinkW, e])
  · dsimp only []
    rw [if_neg Bool.false_ne_true]
    refine fin ?_
    by_cases c2 : idx x W'.words = 0
    · rw [c2]; rfl
    · obtain ⟨i, hi⟩ := Nat.exists_eq_succ_of_ne_zero c2
      rw [hi, sinkW]
      have : swapW W' x = .no := by unfold swapW; rw [if_pos (.inr (by omega))]
      rw [this]
end
end Ab


namespace Ab
open PySem L2
def fFloatS : FD := fun EA xs S P => ∃ N W ks x, xs = [.stk, .im (.str x)] ∧ S = some (stk W ks) ∧ Held W ks ∧ Good N W ∧ N ≤ 100 ∧ x.length ≤ 1000 ∧ isWord x = true ∧ (x ∉ W.words → EA .noSuch S) ∧
  (x ∈ W.words → (floatW W.many W x = .ref → EA (.refused x) S) ∧ ∀ W', floatW W.many W x = .ok W' → ∀ ks', Held W' ks' → P .non (some (stk W' ks')))
/-- n < m - 1 -/
theorem rd_less {E : XA} {a : Ab.A} {P : Bool → Ab.A → Prop} {g : FE} {n m : Nat} {S : Stk} (hg : ∀ Q : D → Ab.A → Prop, Q (.int (n : Nat)) a → g E a Q) (h0 : a.ρ[0]? = some (some .stk)) (hS : a.S = some S) (hm : S.many = (m : Nat)) (h1 : n + 1 < m → P true a) (h2 : ¬ (n + 1 < m) → P false a) :
    tB (fOp FLt g (fOp FSub (fAt 0 .many) (fC (.int 1)))) E a P := by
  unfold tB fOp
  refine hg _ ?_
  unfold fAt fC
  simp only [h0, hS]
  show P (decide ((n : Int) < S.many - 1)) a
  rw [hm]
  by_cases c : n + 1 < m
  · rw [decide_eq_true (by omega)]; exact h1 c
  · rw [decide_eq_false (by omega)]; exact h2 c
theorem rd_same {E : XA} {a : Ab.A} {P : Bool → Ab.A → Prop} {g : FE} {n m : Nat} {S : Stk} (hg : ∀ Q : D → Ab.A → Prop, Q (.int (n : Nat)) a → g E a Q) (h0 : a.ρ[0]? = some (some .stk)) (hS : a.S = some S) (hm : S.many = (m : Nat)) (h1 : n + 1 = m → P true a) (h2 : ¬ (n + 1 = m) → P false a) :
    tB (fOp FEq g (fOp FSub (fAt 0 .many) (fC (.int 1)))) E a P := by
  unfold tB fOp
  refine hg _ ?_
  unfold fAt fC
  simp only [h0, hS]
  refine ⟨rfl, rfl, ?_⟩
  show P (same (.int (n : Nat)) (.int (S.many - 1))) a
  rw [same_int, hm]
  by_cases c : n + 1 = m
  · rw [decide_eq_true (by omega)]; exact h1 c
  · rw [decide_eq_false (by omega)]; exact h2 c
theorem nth_words {ws : List Str} {n : Nat} {x : Str} (h : ws[n]? = some x) : atI (ws.map D.str) ((n : Nat) : Int) = some (.str x) := by
  have hl := (List.getElem?_eq_some_iff.mp h).1
  rw [atI_nat (by rw [List.length_map]; exact hl), List.getElem?_map, h]; rfl
section
variable {P : Program} {w : World} {K : PySem.W.Frag} {mg : Str → Option Value} {base : Heap} {Z : Cl}
abbrev s_float_off : Stmt := inClass (top 24) 9
abbrev n_float_off : List Str := ["self", "word", "kept", "following"]
theorem sc_float_off : FnScope n_float_off ["self", "word"] (defScope s_float_off) := ⟨rfl, rfl, rfl, by decide +kernel, rfl, by decide +kernel, by decide +kernel⟩
theorem ok_float_off {f : Addr} {fd : FuncData} (Fn : Fun K "float_off" "Stack.float_off" s_float_off f fd) (Tb : Blt mg) (Te : Errs P K mg Z) (Ts : StkTxt K Z) (M_check : Mtd P w K mg base Z 2 "check" 2 fCheck) (M_can_swap : Mtd P w K mg base Z 4 "can_swap" 2 fCanS) (M_swap : Mtd P w K mg base Z 4 "swap" 2 fSwapS) : FnOk P w K mg base (L2.CX P w) 5 f fd ["self", "word"] (spA Z 2 fFloatS) := by
  refine aok Fn sc_float_off rfl fun cdv A outer s H E hr => ?_
  have hp := passes_of (X := cxOf (L2.CX P w) P w K mg base n_float_off "Stack.float_off" (defScope s_float_off) f cdv A outer s H E) rfl
  have tk := takes_of (X := cxOf (L2.CX P w) P w K mg base n_float_off "Stack.float_off" (defScope s_float_off) f cdv A outer s H E) rfl rfl rfl rfl
  have hu := hu64 hr
  refine ⟨_, (ss_cons (s_expr (ams 0 Ts M_check hr (by decide) tk (aa_cons (av 1) aa_nil)))
    (ss_cons (s_kept 2 (alist (aat 0 .words Ts) Tb.list (by rfl)) (adict (kat 0 Ts) Tb.dict (by rfl)) sc_float_off.nd)
    (ss_cons (s_while hp (tcmp ao_lt (aidx (aat 0 .words Ts) (av 1)) (ao ao_sub (aat 0 .many Ts) ai) (nomark _))
      (ss_cons (s_set 3 (aix (aat 0 .words Ts) (ao ao_add (aidx (aat 0 .words Ts) (av 1)) ai)) sc_float_off.nd)
      (ss_cons (s_if (tnot (tval (ams 0 Ts M_can_swap hr (by decide) tk (aa_cons (av 3) aa_nil))))
        (s_back 0 2 1 Ts Te hr rfl tk)
        ss_nil)
      (ss_one (s_expr (ams 0 Ts M_swap hr (by decide) tk (aa_cons (av 3) aa_nil)))))))
    (ss_one (s_if (tcmp (ao_eq hu) (aidx (aat 0 .words Ts) (av 1)) (ao ao_sub (aat 0 .many Ts) ai) (nomark _))
      (ss_one (s_dec 0 Ts qi))
      ss_nil))))), fun EA xs S Q h hn => ?_⟩
  obtain ⟨N, W, ks, x, rfl, rfl, hh, G, hN, hx, hw, k1, k2⟩ := h
  refine ⟨rfl, W, ks, x, rfl, rfl, hh.p, hx, fun e => (by rw [hw] at e; cases e), fun e1 e2 => k1 fun z => ?_, fun p e1 e2 => ?_⟩
  · obtain ⟨q, hq⟩ := G.at z
    rw [e2] at hq; cases hq
  have hm : x ∈ W.words := (G.key x).mp (by rw [e2]; rfl)
  obtain ⟨k3, k4⟩ := k2 hm
  dsimp only []
  refine seqI ?_
  show sWhile _ _ _ (Ab.A.mk [some .stk, some (.im (.str x)), some (.kept (W.words.map D.str) ks), none] (some (stk W ks)))
  refine ⟨fun m a => ∃ (W' : Wd) (ks' : List (Str × D)) (r3 : Option AV), a = ⟨[some .stk, some (.im (.str x)), some (.kept (W.words.map D.str) ks), r3], some (stk W' ks')⟩ ∧ Good N W' ∧ Held W' ks' ∧ x ∈ W'.words ∧ W'.many ≤ idx x W'.words + m ∧ floatW m W' x = floatW W.many W x ∧ W'.base = W.base ∧ W'.many = W.many, ⟨W.many, W, ks, none, rfl, G, hh, hm, by omega, rfl, rfl, rfl⟩, ?_⟩
  rintro m a ⟨W', ks', r3, rfl, G', hh', hm', hmm, e3, e4, e5⟩
  refine rd_less (n := idx x W'.words) (m := W'.many) (S := stk W' ks') (fun Q hQ => ⟨flat_words, rfl, idx x W'.words, at_words hm', fun m h => no_words h, hQ⟩) rfl rfl rfl (fun c => ?_) (fun c => ?_)
  · dsimp only []
    rw [if_pos rfl]
    obtain ⟨o, ho, hom, io, hst⟩ := float_step G' c
    obtain ⟨wo1, wo2, wo3⟩ := G'.wok o hom
    obtain ⟨i, rfl⟩ := Nat.exists_eq_succ_of_ne_zero (show m ≠ 0 by omega)
    rw [Nat.succ_eq_add_one, floatW, if_pos c, ho] at e3
    simp only [] at e3
    refine ⟨flat_words, rfl, idx x W'.words, at_words hm', fun m h => no_words h, .str o, ?_, ?_⟩
    · show atI (W'.words.map D.str) ((idx x W'.words : Nat) + 1 : Int) = _
      rw [show ((idx x W'.words : Nat) + 1 : Int) = ((idx x W'.words + 1 : Nat) : Int) by omega]
      exact nth_words ho
    · refine ⟨rfl, N, W', ks', o, rfl, rfl, hh', G', hN, by omega, fun e => (by rw [wo1] at e; cases e), fun _ => ⟨fun z => absurd hom z, fun _ => ?_⟩⟩
      rcases hst with e | ⟨W2, e, g1, g2, g3, g4, g5⟩
      · rw [e]
        rw [e] at e3
        simp only [] at e3
        have := k3 e3.symm
        refine ⟨nd_strs, nd_strs, hh.n, ?_⟩
        show EA (.refused x) (some ⟨strsD W'.base, .lst (W.words.map D.str), ks, (W'.many : Nat)⟩)
        rw [e4, e5]
        exact this
      · rw [e]
        rw [e] at e3
        simp only [] at e3
        refine ⟨rfl, N, W', ks', o, rfl, rfl, hh', G', hN, by omega, fun e => (by rw [wo1] at e; cases e), fun _ => ⟨fun z => (by rw [e] at z; cases z), fun z => (by rw [e] at z; cases z), fun W3 z ks3 hh3 => ?_⟩⟩
        rw [e] at z; cases z
        have gb := (swap_ok G' e).2.2.2.1
        exact ⟨i, by omega, W2, ks3, _, rfl, g1, hh3, (g5 x).mpr hm', by omega, e3, by rw [gb, e4], by omega⟩
  · dsimp only []
    rw [if_neg Bool.false_ne_true]
    have e6 : floatW W.many W x = .ok (floatEnd W' x) := by
      rw [← e3]
      cases m with
      | zero => rw [floatW]
      | succ m => rw [floatW, if_neg c]
    refine rd_same (n := idx x W'.words) (m := W'.many) (S := stk W' ks') (fun Q hQ => ⟨flat_words, rfl, idx x W'.words, at_words hm', fun m h => no_words h, hQ⟩) rfl rfl rfl (fun d => ?_) (fun d => ?_)
    · try dsimp only []
      rw [if_pos rfl]
      have e7 : floatEnd W' x = { W' with many := W'.many - 1 } := by unfold floatEnd; rw [if_pos d]
      rw [e7] at e6
      have := k4 _ e6 ks' ⟨hh'.p, hh'.l, hh'.n⟩
      show Q .non (some ⟨strsD W'.base, .lst (W'.words.map D.str), ks', (W'.many : Nat) - 1⟩)
      rw [show ((W'.many : Nat) - 1 : Int) = ((W'.many - 1 : Nat) : Int) by omega]
      exact this
    · try dsimp only []
      rw [if_neg Bool.false_ne_true]
      have e7 : floatEnd W' x = W' := by unfold floatEnd; rw [if_neg d]
      rw [e7] at e6
      exact k4 _ e6 ks' hh'
end
end Ab


namespace Ab
open PySem L2
theorem dcA_inv {g : FG} {fk fv : FE} {vs : List Nat} {P : List (Str × D) → Option Stk → Prop} {α : Type} (mk : α → D) (Inv : List α → A → List (Str × D) → Prop)
    (hs : ∀ x r a acc (N : A → List (Str × D) → Prop), Inv (x :: r) a acc → (∀ a acc, Inv r a acc → N a acc) → g (mk x) (a.hide.offs vs) fun a1 => fk E0A a1 fun y a2 => fv E0A a2 fun z a3 => match y with
      | .str k => acc.length < sizeLine ∧ N ⟨a.ρ, a3.S⟩ (putD acc k z)
      | _ => False)
    (hd : ∀ a acc, Inv [] a acc → P acc a.S) : ∀ (l : List α) (a : A) (acc : List (Str × D)), Inv l a acc → dcA g fk fv vs (l.map mk) a acc P
  | [], a, acc, h => hd a acc h
  | x :: r, a, acc, h => hs x r a acc (fun a acc => dcA g fk fv vs (r.map mk) a acc P) h fun a' acc' h' => dcA_inv mk Inv hs hd r a' acc' h'
noncomputable def fFoldS : FD := fun EA xs S P => ∃ N W ks x, xs = [.stk, .im (.str x)] ∧ S = some (stk W ks) ∧ Held W ks ∧ Good N W ∧ N ≤ 100 ∧ x.length ≤ 1000 ∧ isWord x = true ∧ (foldW W x = none → EA .noSuch S) ∧
  (∀ W', foldW W x = some W' → ∀ ks', Held W' ks' → P .non (some (stk W' ks')))
section
variable {P : Program} {w : World} {K : PySem.W.Frag} {mg : Str → Option Value} {base : Heap} {Z : Cl}
abbrev s_fold : Stmt := inClass (top 24) 10
abbrev n_fold : List Str := ["self", "word", "place", "other", "one"]
theorem sc_fold : FnScope n_fold ["self", "word"] (defScope s_fold) := ⟨rfl, rfl, rfl, by decide +kernel, rfl, by decide +kernel, by decide +kernel⟩
theorem ok_fold {f : Addr} {fd : FuncData} (Fn : Fun K "fold" "Stack.fold" s_fold f fd) (Tb : Blt mg) (Te : Errs P K mg Z) (Ts : StkTxt K Z) (M_check : Mtd P w K mg base Z 2 "check" 2 fCheck) (D_joined : Dfn P w K mg base Z 2 "joined" 2 fJoined) : FnOk P w K mg base (L2.CX P w) 4 f fd ["self", "word"] (spA Z 2 fFoldS) := by
  refine aok Fn sc_fold rfl fun cdv A outer s H E hr => ?_
  have tk := takes_of (X := cxOf (L2.CX P w) P w K mg base n_fold "Stack.fold" (defScope s_fold) f cdv A outer s H E) rfl rfl rfl rfl
  have hu := hu64 hr
  have hu1 := hu2 hr
  refine ⟨_, (ss_cons (s_expr (ams 0 Ts M_check hr (by decide) tk (aa_cons (av 1) aa_nil)))
    (ss_cons (s_set 2 (aidx (aat 0 .words Ts) (av 1)) sc_fold.nd)
    (ss_cons (s_if (wor (tcmp (ao_eq hu) (av 2) ai (nomark _)) (wor1 (tcmp ao_ge (av 2) (aat 0 .many Ts) (nomark _)))).at
      (ss_one (s_no Te rfl tk (by rfl)))
      ss_nil)
    (ss_cons (s_set 3 (aix (aat 0 .words Ts) (ao ao_sub (av 2) ai)) sc_fold.nd)
    (ss_cons (s_putP 0 Ts hu1 (qv 3) (acl D_joined hr (by decide) tk (aa_cons (aget hu1 (kat 0 Ts) (qv 3)) (aa_cons (aget hu1 (kat 0 Ts) (qv 1)) aa_nil)) (by rfl)))
    (ss_cons (s_fld 0 .words Ts (ao ao_add (asl (aat 0 .words Ts) ono (oso (av 2))) (asl (aat 0 .words Ts) (oso (ao ao_add (av 2) ai)) ono)))
    (ss_cons (s_fldDc 0 (own := [("one", 4)]) Ts rfl sc_fold.nd (i_l (aat 0 .words Ts)) (blkOk_by (N := n_fold) (sc := defScope s_fold) (by decide +kernel)) (by decide) (fun _ _ _ _ _ => (g_nm 4 sc_fold.nd)) (fun _ _ _ _ _ => (av 4)) (fun _ _ _ _ _ => (aget hu1 (kat 0 Ts) (qv 4))))
    (ss_one (s_dec 0 Ts qi))))))))), fun EA xs S Q h hn => ?_⟩
  obtain ⟨N, W, ks, x, rfl, rfl, hh, G, hN, hx, hw, k3, k4⟩ := h
  refine ⟨rfl, W, ks, x, rfl, rfl, hh.p, hx, fun e => (by rw [hw] at e; cases e), fun e1 e2 => k3 ?_, fun p e1 e2 => ?_⟩
  · have h2 : ¬ idx x W.words < W.words.length := fun z => by
      obtain ⟨q, hq⟩ := G.at (idx_lt.mp z)
      rw [e2] at hq; cases hq
    have := G.many
    unfold foldW; rw [if_pos (.inr (by omega))]
  have hm : x ∈ W.words := (G.key x).mp (by rw [e2]; rfl)
  refine ⟨flat_words, rfl, idx x W.words, at_words hm, fun m h => no_words h, ?_⟩
  rcases fold_cases G x with ⟨e, c⟩ | ⟨A, o, B, f, s, h1, e⟩
  · dsimp only []
    refine seqI ?_
    refine rd_edgeS (n := idx x W.words) (m := W.many) (S := stk W ks) rfl rfl rfl rfl (fun _ => ?_) (fun d => absurd c d)
    exact k3 e
  · have hi := h1.i
    have hm2 := h1.m
    obtain ⟨ne, nA, nB⟩ := swap_ne G h1.w
    obtain ⟨l, l1, l2, m, r1, r2, r3, r4, z1, z2, z3, o1, o2, z4, z5⟩ := h1.runs G
    have pf := G.pat _ _ h1.f
    have ps := G.pat _ _ h1.s
    have lw := many_len G hN
    have lw2 : W.words.length = A.length + B.length + 2 := by rw [h1.w]; simp; omega
    have lk := hh.l
    dsimp only []
    refine seqI ?_
    refine rd_edgeS (n := idx x W.words) (m := W.many) (S := stk W ks) rfl rfl rfl rfl (fun d => by omega) (fun _ => ?_)
    refine ⟨.str o, ?_, paD f, hh.p.some h1.f, paD s, hh.p.some h1.s, rfl, joined_of ⟨f, s, l, l1, l2, rfl, pf.v, ps.v, pf.o, ps.o, r2, r3, by omega, by omega, by omega, ?_⟩⟩
    · show atI (W.words.map D.str) ((idx x W.words : Nat) - 1 : Int) = _
      rw [show ((idx x W.words : Nat) - 1 : Int) = (A.length : Nat) by omega, atI_nat (by rw [h1.w]; simp), h1.w]
      simp
    · refine ⟨by show ks.length < sizeLine; omega, ?_⟩
      have ep : cutD (W.words.map D.str) none (some ((idx x W.words : Nat) : Int)) = (A ++ [o]).map D.str := by
        rw [cutD_take, ← List.map_take, hi, h1.w, show A ++ o :: x :: B = (A ++ [o]) ++ x :: B by simp, take_len (by simp)]
      have eb := h1.cuts.2
      refine ⟨?_, ⟨strsD W.base, .lst (cutD (W.words.map D.str) none (some ((idx x W.words : Nat) : Int)) ++ cutD (W.words.map D.str) (some ((idx x W.words : Nat) + 1 : Int)) none), putD ks o (paD (joinP f s)), (W.many : Nat)⟩, rfl, ?_⟩
      · show (cutD (W.words.map D.str) none (some ((idx x W.words : Nat) : Int))).length + (cutD (W.words.map D.str) (some ((idx x W.words : Nat) + 1 : Int)) none).length ≤ _
        rw [ep, eb, List.length_map, List.length_map, List.length_append]; simp only [List.length_cons, List.length_nil]; omega
      · rw [ep, eb, ← List.map_append, show A ++ [o] ++ B = A ++ o :: B by simp]
        have hp' : Pats (putD ks o (paD (joinP f s))) (setP W.pat o (joinP f s)) := hh.p.set o _
        have key : ∀ y ∈ A ++ o :: B, y ≠ x ∧ ∃ p, setP W.pat o (joinP f s) y = some p := fun y hy => by
          have hyx : y ≠ x := by
            rcases List.mem_append.mp hy with z | z
            · exact (nA y z).1
            · rcases List.mem_cons.mp z with z | z
              · rw [z]; exact fun e => ne e.symm
              · exact (nB y z).1
          refine ⟨hyx, ?_⟩
          by_cases e1 : y = o
          · rw [e1]; exact ⟨_, setP_same⟩
          · rw [setP_ne e1]
            exact G.at (by rw [h1.w]; simp at hy ⊢; rcases hy with h | h | h <;> simp [h])
        show dcA _ _ _ _ ((A ++ o :: B).map D.str) _ _ _
        refine dcA_inv D.str (fun r a acc => ∃ dn : List Str, A ++ o :: B = dn ++ r ∧ acc.length ≤ dn.length ∧ (∀ e ∈ acc, nd e.2 = true) ∧ (∀ y, lookD acc y = if y ∈ dn then (setP W.pat o (joinP f s) y).map paD else none) ∧ a = ⟨[some .stk, some (.im (.str x)), some (.im (.int (idx x W.words : Nat))), some (.im (.str o)), none], some ⟨strsD W.base, .lst ((A ++ o :: B).map D.str), putD ks o (paD (joinP f s)), (W.many : Nat)⟩⟩) ?_ ?_ (A ++ o :: B) _ _ ⟨[], rfl, Nat.le_refl _, (fun _ h => nomatch h), fun y => (by simp [lookD_nil]), rfl⟩
        · rintro y r a acc N' ⟨dn, q1, q2, q3, q4, rfl⟩ hN'
          have hy : y ∈ A ++ o :: B := by rw [q1]; simp
          obtain ⟨_, p, hp⟩ := key y hy
          refine ⟨paD p, ?_, ?_, ?_⟩
          · show lookD (putD ks o (paD (joinP f s))) y = _
            rw [hp', hp]; rfl
          · have := congrArg List.length q1
            simp at this
            omega
          · refine hN' _ _ ⟨dn ++ [y], by rw [q1]; simp, Nat.le_trans putD_len (by simp; omega), nd_put q3 nd_pa, fun z => ?_, rfl⟩
            rw [lookD_put]
            by_cases e : z = y
            · rw [if_pos e, if_pos (by rw [e]; simp), e, hp]; rfl
            · rw [if_neg e, q4]
              simp [e]
        · rintro a acc ⟨dn, q1, q2, q3, q4, rfl⟩
          rw [List.append_nil] at q1
          subst q1
          have := k4 _ e acc ⟨fun y => ?_, ?_, q3⟩
          · show Q .non (some ⟨strsD W.base, .lst ((A ++ o :: B).map D.str), acc, (W.many : Nat) - 1⟩)
            rw [show ((W.many : Nat) - 1 : Int) = ((W.many - 1 : Nat) : Int) by omega]
            exact this
          · rw [q4]
            show _ = ((if y = x then none else setP W.pat o (joinP f s) y) : Option (List Hk)).map paD
            by_cases e1 : y ∈ A ++ o :: B
            · rw [if_pos e1, if_neg (key y e1).1]
            · rw [if_neg e1]
              by_cases e2 : y = x
              · rw [if_pos e2]; rfl
              · rw [if_neg e2]
                have e3 : y ≠ o := fun e => e1 (by rw [e]; simp)
                rw [setP_ne e3]
                cases eq : W.pat y with
                | none => rfl
                | some p =>
                  have := (G.key y).mp (by rw [eq]; rfl)
                  rw [h1.w] at this
                  exact absurd (by simp at this ⊢; rcases this with h | h | h | h; exact .inl h; exact .inr (.inl h); exact absurd h e2; exact .inr (.inr h)) e1
          · show acc.length ≤ (A ++ o :: B).length
            exact q2
end
end Ab


namespace Ab
open PySem L2
def fRebS : FD := fun EA xs S P => ∃ N M W ks p, xs = [.stk, .im (paD p)] ∧ S = some (stk W ks) ∧ Held W ks ∧ Good N W ∧ N ≤ 100 ∧ PatOk M p ∧ M ≤ 200 ∧ (app 0 W.base p = none → EA .conflict S) ∧
  ∀ b, app 0 W.base p = some b → (∀ x, carryW W.pat (W.words.take W.many) p W.pat = .inl x → EA (.refused x) S) ∧ ∀ g, carryW W.pat (W.words.take W.many) p W.pat = .inr g → ∀ ks', Held { W with base := b, pat := g } ks' → P .non (some (stk { W with base := b, pat := g } ks'))
def fUndone : FD := fun _ xs S P => ∃ N W ks, xs = [.stk] ∧ S = some (stk W ks) ∧ Held W ks ∧ Good N W ∧ N ≤ 100 ∧ P (strsD W.base) S
theorem gsum_back {p : List Hk} : ∀ {m : Int}, gsum (backF m p) = csum p := by
  induction p with
  | nil => intro m; rfl
  | cons h r ih =>
    intro m
    have := ih (m := m + h.c.length - h.g.length)
    simp only [backF, csum, gsum, List.map_cons, List.sum_cons] at this ⊢
    rw [this]
section
variable {P : Program} {w : World} {K : PySem.W.Frag} {mg : Str → Option Value} {base : Heap} {Z : Cl}
abbrev s_rebase : Stmt := inClass (top 24) 11
abbrev n_rebase : List Str := ["self", "patch", "base", "over", "made", "word", "new"]
theorem sc_rebase : FnScope n_rebase ["self", "patch"] (defScope s_rebase) := ⟨rfl, rfl, rfl, by decide +kernel, rfl, by decide +kernel, by decide +kernel⟩
theorem ok_rebase {f : Addr} {fd : FuncData} (Fn : Fun K "rebase" "Stack.rebase" s_rebase f fd) (Tb : Blt mg) (Te : Errs P K mg Z) (Ts : StkTxt K Z) (D_put_on : Dfn P w K mg base Z 1 "put_on" 2 fPutOn) (D_carried : Dfn P w K mg base Z 2 "carried" 2 fCarried) : FnOk P w K mg base (L2.CX P w) 3 f fd ["self", "patch"] (spA Z 2 fRebS) := by
  refine aok Fn sc_rebase rfl fun cdv A outer s H E hr => ?_
  have hp := passes_of (X := cxOf (L2.CX P w) P w K mg base n_rebase "Stack.rebase" (defScope s_rebase) f cdv A outer s H E) rfl
  have tk := takes_of (X := cxOf (L2.CX P w) P w K mg base n_rebase "Stack.rebase" (defScope s_rebase) f cdv A outer s H E) rfl rfl rfl rfl
  have hu1 := hu2 hr
  refine ⟨_, (ss_cons (s_tri 2 3 4 (acl D_put_on hr (by decide) tk (aa_cons (aat 0 .base Ts) (aa_cons (av 1) aa_nil)) (by rfl)) (atpl (av 1) Tb.tuple (by rfl)) (adict (kat 0 Ts) Tb.dict (by rfl)) rfl sc_rebase.nd)
    (ss_cons (s_for hp rfl (i_l (asl (aat 0 .words Ts) ono (oso (aat 0 .many Ts)))) (g_nm 5 sc_rebase.nd)
      (ss_cons (s_set 6 (acl D_carried hr (by decide) tk (aa_cons (aget hu1 (kat 0 Ts) (qv 5)) (aa_cons (av 3) aa_nil)) (by rfl)) sc_rebase.nd)
      (ss_cons (s_if (tcmp ao_isN (av 6) an (nomark _))
        (ss_one (s_rf Te hr rfl tk (av 5) (by rfl)))
        ss_nil)
      (ss_cons (s_set 3 (acl D_carried hr (by decide) tk (aa_cons (av 3) (aa_cons (aget hu1 (kat 0 Ts) (qv 5)) aa_nil)) (by rfl)) sc_rebase.nd)
      (ss_one (s_putD 4 hu1 (qv 5) (av 6)))))))
    (ss_one (s_give 0 2 4 Ts rfl)))), fun EA xs S Q h hn => ?_⟩
  obtain ⟨N, M, W, ks, p, rfl, rfl, hh, G, hN, hp, hM, k1, k2⟩ := h
  have lb : W.base.length ≤ 100 := by have := G.size; omega
  refine ⟨rfl, W.base, p, rfl, G.okb, hp.fine, hp.short hM (by omega), fun b hb => ?_, fun e => k1 (by rw [putOn_app hp.v] at e; exact e)⟩
  rw [putOn_app hp.v] at hb
  obtain ⟨k3, k4⟩ := k2 b hb
  dsimp only []
  refine seqI ?_
  show forA _ _ (cutD (W.words.map .str) none (some (W.many : Int))) _ _
  rw [cutD_take, ← List.map_take]
  have lw := many_len G hN
  refine forA_inv D.str (fun r a => ∃ (ov : List Hk) (g : Str → Option (List Hk)) (km : List (Str × D)) (r5 r6 : Option AV), carryW W.pat r ov g = carryW W.pat (W.words.take W.many) p W.pat ∧ valid (-1) ov = true ∧ ov.length = p.length ∧ Pats km g ∧ km.length = ks.length ∧ (∀ e ∈ km, nd e.2 = true) ∧ (∀ y ∈ r, (g y).isSome = true) ∧ (∀ y ∈ r, y ∈ W.words) ∧ a = ⟨[some .stk, some (.im (paD p)), some (.im (strsD b)), some (.im (paD ov)), some (.owd km), r5, r6], some (stk W ks)⟩) ?_ ?_ _ _ ⟨p, W.pat, ks, none, none, rfl, hp.v, rfl, hh.p, rfl, hh.n, fun y hy => (G.key y).mpr (List.mem_of_mem_take hy), fun y hy => List.mem_of_mem_take hy, rfl⟩
  · rintro x r a N' ⟨ov, g, km, r5, r6, e1, e2, e3, e4, e5, e6, e7, e8, rfl⟩ hN'
    obtain ⟨q, hq⟩ := G.at (e8 x List.mem_cons_self)
    have pq := G.pat x q hq
    have lo : ov.length < sizeLine := by have := hp.l; rw [sizeLine_eq]; omega
    rw [carryW, hq] at e1
    simp only [] at e1
    by_cases t : touchB q ov = true
    · rw [if_pos t] at e1
      refine ⟨paD q, hh.p.some hq, rfl, q, ov, rfl, pat_len G hN hq, .inl ⟨t, ?_⟩⟩
      exact ⟨.refused x, rfl, k3 x e1.symm⟩
    · rw [if_neg t] at e1
      have t : touchB q ov = false := by simpa using t
      refine ⟨paD q, hh.p.some hq, rfl, q, ov, rfl, pat_len G hN hq, .inr ⟨_, t, carL_ovL e2 t, ?_⟩⟩
      refine ⟨paD q, hh.p.some hq, rfl, ov, q, rfl, lo, .inr ⟨_, touchB_comm t, carL_ovL pq.v (touchB_comm t), ?_⟩⟩
      have hs : (lookD km x).isSome = true := by
        rw [e4]
        have := e7 x List.mem_cons_self
        cases eg : g x with
        | none => rw [eg] at this; cases this
        | some z => rfl
      refine ⟨by have := hh.l; omega, hN' _ ⟨ovL ov q, setP g x (ovL q ov), putD km x (paD (ovL q ov)), _, _, e1, valid_carried e2 pq.v (touchB_comm t), by rw [ovL_sum.1]; exact e3, e4.set x _, by rw [putD_same hs]; exact e5, nd_put e6 nd_pa, fun y hy => ?_, fun y hy => e8 y (List.mem_cons_of_mem _ hy), rfl⟩⟩
      by_cases z : y = x
      · rw [z, setP_same]; rfl
      · rw [setP_ne z]; exact e7 y (List.mem_cons_of_mem _ hy)
  · rintro a ⟨ov, g, km, r5, r6, e1, e2, e3, e4, e5, e6, e7, e8, rfl⟩
    rw [carryW] at e1
    exact k4 g e1.symm km ⟨e4, by rw [e5]; exact hh.l, e6⟩
abbrev s_undone_lines : Stmt := top 27
abbrev n_undone_lines : List Str := ["stack", "found", "word"]
theorem sc_undone_lines : FnScope n_undone_lines ["stack"] (defScope s_undone_lines) := ⟨rfl, rfl, rfl, by decide +kernel, rfl, by decide +kernel, by decide +kernel⟩
theorem ok_undone_lines {f : Addr} {fd : FuncData} (Fn : Fun K "undone_lines" "undone_lines" s_undone_lines f fd) (Tb : Blt mg) (Ts : StkTxt K Z) (D_put_on : Dfn P w K mg base Z 1 "put_on" 2 fPutOn) (D_turned_back : Dfn P w K mg base Z 1 "turned_back" 1 fTurned) (M_lines : Mtd P w K mg base Z 2 "lines" 1 fLinesS) (M_applied : Mtd P w K mg base Z 1 "applied" 1 fAppliedS) (M_patch : Mtd P w K mg base Z 3 "patch" 2 fPatchS) : FnOk P w K mg base (L2.CX P w) 4 f fd ["stack"] (spA Z 1 fUndone) := by
  refine aok Fn sc_undone_lines rfl fun cdv A outer s H E hr => ?_
  have hp := passes_of (X := cxOf (L2.CX P w) P w K mg base n_undone_lines "undone_lines" (defScope s_undone_lines) f cdv A outer s H E) rfl
  have tk := takes_of (X := cxOf (L2.CX P w) P w K mg base n_undone_lines "undone_lines" (defScope s_undone_lines) f cdv A outer s H E) rfl rfl rfl rfl
  refine ⟨_, (ss_cons (s_set 1 (ams0 0 Ts M_lines hr (by decide) tk) sc_undone_lines.nd)
    (ss_cons (s_for hp rfl (i_v (ams0 0 Ts M_applied hr (by decide) tk) Tb.reversed (by rfl)) (g_nm 2 sc_undone_lines.nd)
      (ss_one (s_set 1 (acl D_put_on hr (by decide) tk (aa_cons (av 1) (aa_cons (acl D_turned_back hr (by decide) tk (aa_cons (ams 0 Ts M_patch hr (by decide) tk (aa_cons (av 2) aa_nil)) aa_nil) (by rfl)) aa_nil)) (by rfl)) sc_undone_lines.nd)))
    (ss_one (s_ret (av 1))))), fun EA xs S Q h hn => ?_⟩
  obtain ⟨N, W, ks, rfl, rfl, hh, G, hN, hk⟩ := h
  obtain ⟨m, hm, hr2, om, lm⟩ := G.lines (by omega)
  have lw := many_len G hN
  refine ⟨rfl, W, ks, m, rfl, rfl, hh.p, lw, hr2, ?_⟩
  dsimp only []
  refine seqI ?_
  refine ⟨rfl, W, ks, rfl, rfl, ?_⟩
  show forA _ _ (((W.words.take W.many).map D.str).reverse) _ _
  rw [← List.map_reverse]
  refine forA_inv D.str (fun r a => ∃ (l : List Str) (r2 : Option AV), run W.pat W.base r.reverse = some l ∧ (∀ y ∈ r, y ∈ W.words) ∧ W.base.length + pot W.pat r.reverse ≤ N ∧ a = ⟨[some .stk, some (.im (strsD l)), r2], some (stk W ks)⟩) ?_ ?_ _ _ ⟨m, none, by rw [List.reverse_reverse]; exact hm, fun y hy => List.mem_of_mem_take (List.mem_reverse.mp hy), ?_, rfl⟩
  · rintro x r a N' ⟨l, r2, e1, e2, e3, rfl⟩ hN'
    rw [List.reverse_cons] at e1 e3
    obtain ⟨k, q1, q2⟩ := run_app.mp e1
    obtain ⟨p, l', p1, p2, p3⟩ := run_cons q2
    rw [run] at p3; cases p3
    have hp := G.pat x p p1
    obtain ⟨w1, w2, _⟩ := G.wok x (e2 x List.mem_cons_self)
    rw [pot_app] at e3
    have ok := run_okL (fun x p k => (G.pat x p k).o) G.okb q1
    have ok2 := app_okL p2 ok hp.o
    have ll := run_len (fun x p k => (G.pat x p k).v) e1
    rw [pot_app] at ll
    have hb := app_back hp.v p2
    have vb := valid_back hp.v
    have gb : PatOk N (back p) := ⟨vb, fun h hh => by obtain ⟨x, hx, e1, e2⟩ := back_mem hh; rw [e1, e2]; exact ⟨(hp.o x hx).2, (hp.o x hx).1⟩, by rw [backF_len]; exact hp.l, by rw [gsum_back]; exact hp.c, by rw [csum_back]; exact hp.g⟩
    refine ⟨rfl, W, ks, x, p, rfl, rfl, hh.p, by omega, w1, p1, ?_⟩
    refine ⟨rfl, p, rfl, pat_len G hN p1, ?_⟩
    refine ⟨rfl, l, back p, rfl, ok2, gb.fine, gb.short (by omega) (by omega), fun z hz => ?_, fun z => ?_⟩
    · rw [putOn_app vb, hb] at hz; cases hz
      exact hN' _ ⟨k, _, q1, fun y hy => e2 y (List.mem_cons_of_mem _ hy), by omega, rfl⟩
    · rw [putOn_app vb, hb] at z; cases z
  · rintro a ⟨l, r2, e1, e2, e3, rfl⟩
    rw [List.reverse_nil, run] at e1; cases e1
    exact hk
  · rw [List.reverse_reverse]
    have := pot_take (f := W.pat) (a := W.words) (n := W.many)
    have := G.size
    omega
end
end Ab


namespace Ab
open PySem L2
def rowD (e : Str × List Hk) : D := .tup [.str e.1, paD e.2]
def optRows : Option Rows → D
  | none => .non
  | some r => .lst (r.map rowD)
def fPast : FD := fun _ xs S P => ∃ N p r, xs = [.im (paD p), .im (.lst (r.map rowD))] ∧ PatOk N p ∧ (∀ e ∈ r, PatOk N e.2) ∧ N ≤ 200 ∧ r.length ≤ 200 ∧ P (optRows (pastR p r)) S
def fDepends : FD := fun _ xs S P => ∃ N W ks x p, xs = [.stk, .im (.str x)] ∧ S = some (stk W ks) ∧ Held W ks ∧ Good N W ∧ N ≤ 100 ∧ x ∈ W.words ∧ W.pat x = some p ∧
  P (.tup ((hangR W.pat (W.words.take (idx x W.words)).reverse [(x, p)] []).map .str)) S
theorem PatOk.sz {N : Nat} {p : List Hk} (h : PatOk N p) (hN : N ≤ 200) : p.length < sizeLine := by have := h.l; rw [sizeLine_eq]; omega
section
variable {P : Program} {w : World} {K : PySem.W.Frag} {mg : Str → Option Value} {base : Heap} {Z : Cl}
abbrev s_past_all : Stmt := top 26
abbrev n_past_all : List Str := ["patch", "rows", "made", "word", "other", "pair"]
theorem sc_past_all : FnScope n_past_all ["patch", "rows"] (defScope s_past_all) := ⟨rfl, rfl, rfl, by decide +kernel, rfl, by decide +kernel, by decide +kernel⟩
theorem ok_past_all {f : Addr} {fd : FuncData} (Fn : Fun K "past_all" "past_all" s_past_all f fd) (Tb : Blt mg) (D_commuted : Dfn P w K mg base Z 3 "commuted" 2 fCommuted) : FnOk P w K mg base (L2.CX P w) 4 f fd ["patch", "rows"] (spA Z 2 fPast) := by
  refine aok Fn sc_past_all rfl fun cdv A outer s H E hr => ?_
  have hp := passes_of (X := cxOf (L2.CX P w) P w K mg base n_past_all "past_all" (defScope s_past_all) f cdv A outer s H E) rfl
  have tk := takes_of (X := cxOf (L2.CX P w) P w K mg base n_past_all "past_all" (defScope s_past_all) f cdv A outer s H E) rfl rfl rfl rfl
  refine ⟨_, (ss_cons (s_own 2 (alst aa_nil) sc_past_all.nd)
    (ss_cons (s_for hp rfl (i_l (av 1)) (g_tp rfl (gs_cons (g_nm 3 sc_past_all.nd) (gs_cons (g_nm 4 sc_past_all.nd) gs_nil)) (gl1 (gl1 gl0)))
      (ss_cons (s_set 5 (acl D_commuted hr (by decide) tk (aa_cons (av 0) (aa_cons (av 4) aa_nil)) (by rfl)) sc_past_all.nd)
      (ss_cons (s_if (tcmp ao_isN (av 5) an (nomark _))
        (ss_one (s_ret an))
        ss_nil)
      (ss_cons (s_app 2 (atup (aa_cons (av 3) (aa_cons (aix (av 5) ai) aa_nil))))
      (ss_one (s_set 0 (aix (av 5) ai) sc_past_all.nd))))))
    (ss_one (s_ret (av 2))))), fun EA xs S Q h hn => ?_⟩
  obtain ⟨N, p, r, rfl, hp, hr0, hN, hl, hk⟩ := h
  have z2 : 2 ≤ sizeLine := sz3
  refine ⟨Nat.zero_le _, ?_⟩
  dsimp only []
  refine seqI ?_
  refine forA_inv rowD (fun q a => ∃ (p' : List Hk) (dn : Rows) (fd : List D) (r3 r4 r5 : Option AV), fd = dn.map rowD ∧ PatOk N p' ∧ (∀ e ∈ q, PatOk N e.2) ∧ pastR p r = (pastR p' q).map (dn ++ ·) ∧ dn.length + q.length = r.length ∧ a = ⟨[some (.im (paD p')), some (.im (.lst (r.map rowD))), some (.owl fd), r3, r4, r5], S⟩) ?_ ?_ r _ ⟨p, [], [], none, none, none, rfl, hp, hr0, by cases pastR p r <;> simp, by simp, rfl⟩
  · rintro ⟨x, o⟩ q a N' ⟨p', dn, _, r3, r4, r5, rfl, h1, h2, h3, h4, rfl⟩ hN'
    have ho := h2 (x, o) List.mem_cons_self
    have ho : PatOk N o := ho
    rw [List.length_cons] at h4
    rw [pastR] at h3
    refine ⟨rfl, p', o, rfl, h1.sz hN, ho.sz hN, ?_⟩
    by_cases t : touchB o (back p') = true
    · rw [if_pos t] at h3
      refine .inl ⟨t, ?_⟩
      show Q .non S
      rw [h3] at hk
      exact hk
    · rw [if_neg t] at h3
      have t : touchB o (back p') = false := by simpa using t
      obtain ⟨t2, va, vb⟩ := past_step h1 ho t
      refine .inr ⟨_, _, t, carL_ovL (valid_back h1.v) t, t2, carL_ovL va.v t2, ?_⟩
      refine ⟨_, rfl, z2, ?_, ?_⟩
      · rw [List.length_map]; rw [sizeLine_eq]; omega
      · refine ⟨_, rfl, hN' _ ⟨ovL p' (ovL o (back p')), dn ++ [(x, ovL o (back p'))], _, _, _, _, by rw [List.map_append]; rfl, vb, fun e he => h2 e (List.mem_cons_of_mem _ he), ?_, by simp; omega, rfl⟩⟩
        rw [h3]
        cases pastR (ovL p' (ovL o (back p'))) q <;> simp
  · rintro a ⟨p', dn, _, r3, r4, r5, rfl, h1, h2, h3, h4, rfl⟩
    rw [pastR] at h3
    rw [h3] at hk
    simp only [Option.map_some, List.append_nil] at hk
    exact hk
abbrev s_depends_on : Stmt := top 25
abbrev n_depends_on : List Str := ["stack", "word", "place", "rows", "other", "kept", "found", "patch", "moved"]
theorem sc_depends_on : FnScope n_depends_on ["stack", "word"] (defScope s_depends_on) := ⟨rfl, rfl, rfl, by decide +kernel, rfl, by decide +kernel, by decide +kernel⟩
theorem ok_depends_on {f : Addr} {fd : FuncData} (Fn : Fun K "depends_on" "depends_on" s_depends_on f fd) (Tb : Blt mg) (Ts : StkTxt K Z) (M_check : Mtd P w K mg base Z 2 "check" 2 fCheck) (D_past_all : Dfn P w K mg base Z 4 "past_all" 2 fPast) : FnOk P w K mg base (L2.CX P w) 5 f fd ["stack", "word"] (spA Z 2 fDepends) := by
  refine aok Fn sc_depends_on rfl fun cdv A outer s H E hr => ?_
  have hp := passes_of (X := cxOf (L2.CX P w) P w K mg base n_depends_on "depends_on" (defScope s_depends_on) f cdv A outer s H E) rfl
  have tk := takes_of (X := cxOf (L2.CX P w) P w K mg base n_depends_on "depends_on" (defScope s_depends_on) f cdv A outer s H E) rfl rfl rfl rfl
  have hu1 := hu2 hr
  refine ⟨_, (ss_cons (s_expr (ams 0 Ts M_check hr (by decide) tk (aa_cons (av 1) aa_nil)))
    (ss_cons (s_set 2 (aidx (aat 0 .words Ts) (av 1)) sc_depends_on.nd)
    (ss_cons (s_setLc 3 (own := [("other", 4)]) rfl sc_depends_on.nd (i_l (asl (aat 0 .words Ts) ono (oso (av 2)))) (blkOk_by (N := n_depends_on) (sc := defScope s_depends_on) (by decide +kernel)) (by decide) (fun _ _ _ _ _ => (g_nm 4 sc_depends_on.nd)) (fun _ _ _ _ _ => ts_nil) (fun _ _ _ _ _ => (atup (aa_cons (av 4) (aa_cons (aget hu1 (kat 0 Ts) (qv 4)) aa_nil)))) (by rfl))
    (ss_cons (s_par 5 6 (anew (alst (aa_cons (atup (aa_cons (av 1) (aa_cons (aget hu1 (kat 0 Ts) (qv 1)) aa_nil))) aa_nil))) (anew (alst aa_nil)) rfl sc_depends_on.nd)
    (ss_cons (s_for hp rfl (i_v (av 3) Tb.reversed (by rfl)) (g_tp rfl (gs_cons (g_nm 4 sc_depends_on.nd) (gs_cons (g_nm 7 sc_depends_on.nd) gs_nil)) (gl1 (gl1 gl0)))
      (ss_cons (s_set 8 (acl D_past_all hr (by decide) tk (aa_cons (av 7) (aa_cons (av 5) aa_nil)) (by rfl)) sc_depends_on.nd)
      (ss_one (s_if (tcmp ao_isN (av 8) an (nomark _))
        (ss_cons (s_set 5 (ao ao_add (anew (alst (aa_cons (atup (aa_cons (av 4) (aa_cons (av 7) aa_nil))) aa_nil))) (av 5)) sc_depends_on.nd)
        (ss_one (s_set 6 (ao ao_add (anew (alst (aa_cons (av 4) aa_nil))) (av 6)) sc_depends_on.nd)))
        (ss_one (s_set 5 (av 8) sc_depends_on.nd))))))
    (ss_one (s_ret (atpl (av 6) Tb.tuple (by rfl))))))))), fun EA xs S Q h hn => ?_⟩
  obtain ⟨N, W, ks, x, p, rfl, rfl, hh, G, hN, hm, hp, hk⟩ := h
  have z2 : 2 ≤ sizeLine := sz3
  have z1 : 1 ≤ sizeLine := sz3
  obtain ⟨w1, w2, _⟩ := G.wok x hm
  have lw := many_len G hN
  have few := G.few
  refine ⟨rfl, W, ks, x, rfl, rfl, hh.p, by omega, fun e => (by rw [w1] at e; cases e), fun _ e => (by rw [hp] at e; cases e), fun _ _ _ => ?_⟩
  refine ⟨flat_words, rfl, idx x W.words, at_words hm, fun m h => no_words h, ?_⟩
  dsimp only []
  refine seqI ?_
  show lcA _ _ _ _ (cutD (W.words.map .str) none (some ((idx x W.words : Nat) : Int))) _ _ _
  rw [cutD_take, ← List.map_take]
  have il := idx_le (x := x) (l := W.words)
  have mem : ∀ y ∈ W.words.take (idx x W.words), ∃ q, W.pat y = some q ∧ PatOk N q := fun y hy => by
    obtain ⟨q, hq⟩ := G.at (List.mem_of_mem_take hy)
    exact ⟨q, hq, G.pat y q hq⟩
  generalize hT : W.words.take (idx x W.words) = T at mem hk
  have lT : T.length ≤ 100 := by rw [← hT, List.length_take]; omega
  refine lcA_inv D.str (fun r a acc => ∃ dn : Rows, T = dn.map (·.1) ++ r ∧ (∀ e ∈ dn, W.pat e.1 = some e.2) ∧ acc = dn.map rowD ∧ a = ⟨[some .stk, some (.im (.str x)), some (.im (.int (idx x W.words : Nat))), none, none, none, none, none, none], some (stk W ks)⟩) ?_ ?_ T _ [] ⟨[], rfl, (fun _ h => nomatch h), rfl, rfl⟩
  · rintro y r a acc N' ⟨dn, q1, q2, rfl, rfl⟩ hN'
    obtain ⟨q, hq, _⟩ := mem y (by rw [q1]; simp)
    have := congrArg List.length q1
    simp at this
    refine ⟨paD q, hh.p.some hq, z2, ?_, hN' _ _ ⟨dn ++ [(y, q)], by rw [q1]; simp, fun e he => ?_, by rw [List.map_append]; rfl, rfl⟩⟩
    · rw [List.length_map, sizeLine_eq]; omega
    · rcases List.mem_append.mp he with z | z
      · exact q2 e z
      · rw [List.mem_singleton.mp z]; exact hq
  · rintro a acc ⟨dn, q1, q2, rfl, rfl⟩
    rw [List.append_nil] at q1
    have okd : ∀ e ∈ dn, PatOk N e.2 := fun e he => G.pat e.1 e.2 (q2 e he)
    have ld : dn.length = T.length := by rw [q1]; simp
    refine ⟨paD p, hh.p.some hp, z2, z1, Nat.zero_le _, ?_⟩
    dsimp only []
    refine seqI ?_
    show forA _ _ ((dn.map rowD).reverse) _ _
    rw [← List.map_reverse]
    refine forA_inv rowD (fun r a => ∃ (kept : Rows) (found : List Str) (kd fd : List D) (r4 r7 r8 : Option AV), kd = kept.map rowD ∧ fd = found.map D.str ∧ (∀ e ∈ kept, PatOk N e.2) ∧ (∀ e ∈ r, W.pat e.1 = some e.2) ∧ kept.length + r.length ≤ dn.length + 1 ∧ found.length + r.length ≤ dn.length ∧ hangR W.pat (r.map (·.1)) kept found = hangR W.pat T.reverse [(x, p)] [] ∧
      a = ⟨[some .stk, some (.im (.str x)), some (.im (.int (idx x W.words : Nat))), some (.im (.lst (dn.map rowD))), r4, some (.im (.lst kd)), some (.im (.lst fd)), r7, r8], some (stk W ks)⟩) ?_ ?_ dn.reverse _ ⟨[(x, p)], [], _, _, _, _, _, rfl, rfl, fun e he => by rw [List.mem_singleton.mp he]; exact G.pat x p hp, fun e he => q2 e (List.mem_reverse.mp he), by simp; omega, by simp, by rw [q1, List.map_reverse], rfl⟩
    · rintro ⟨o, q⟩ r a N' ⟨kept, found, _, _, r4, r7, r8, rfl, rfl, h1, h2, h3, h4, h5, rfl⟩ hN'
      have ho : W.pat o = some q := h2 (o, q) List.mem_cons_self
      have po := G.pat o q ho
      rw [List.length_cons] at h3 h4
      rw [List.map_cons, hangR, ho] at h5
      simp only [] at h5
      refine ⟨rfl, N, q, kept, rfl, po, h1, by omega, by omega, ?_⟩
      dsimp only []
      cases e : pastR q kept with
      | none =>
        rw [e] at h5
        simp only [] at h5
        refine ⟨z2, z1, by rw [List.length_map, sizeLine_eq]; simp; omega, z1, by rw [List.length_map, sizeLine_eq]; simp; omega, hN' _ ⟨(o, q) :: kept, o :: found, _, _, _, _, _, by rfl, by rfl, fun e he => ?_, fun e he => h2 e (List.mem_cons_of_mem _ he), by simp; omega, by simp; omega, h5, rfl⟩⟩
        rcases List.mem_cons.mp he with z | z
        · rw [z]; exact po
        · exact h1 e z
      | some m =>
        rw [e] at h5
        simp only [] at h5
        obtain ⟨d1, d2, d3⟩ := past_ok po h1 e
        exact hN' _ ⟨m, found, _, _, _, _, _, rfl, rfl, d1, fun e he => h2 e (List.mem_cons_of_mem _ he), by omega, by omega, h5, rfl⟩
    · rintro a ⟨kept, found, _, _, r4, r7, r8, rfl, rfl, h1, h2, h3, h4, h5, rfl⟩
      rw [List.map_nil, hangR] at h5
      rw [← h5] at hk
      exact hk
end
end Ab


namespace Ab
open PySem L2
section
variable {X : Cx} {Z : Cl} {W : WX} {e e1 e2 e3 e4 : Expr} {f g f1 f2 f3 f4 : FE} {pos pos' apos p p2 : Pos} {fl : FL} {fk : FK} {u w : FQ} {rest : List Expr} {j1 j2 j3 j4 : Nat} {c1 c2 c3 c4 : Pos}
/-! ### one's own dict is given away, ahead of an expression -/
def fFrz (i : Nat) (f : FE) : FE := fun E a P => match a.ρ[i]? with
  | some (some (.owd ks)) => f E (a.put i (.im (.dct ks))) P
  | _ => False
theorem afrz (i : Nat) (a : AE X Z W e f) : AE X Z W e (fFrz i f) := by
  obtain ⟨t, pa, sa⟩ := a.ex
  refine ⟨t, pa, fun B σ H G a P Q E r w h k => ?_⟩
  unfold fFrz at h
  split at h
  · rename_i ks hi
    obtain ⟨p, G', q1, q2, q3, q4⟩ := r.freezeD hi
    exact sa B σ H G' _ P Q E q4 w h fun d a' v H' G2 h1 e1 r1 x1 => k d a' v H' G2 h1 (q3.trans e1) r1 x1
  · exact h.elim
/-! ### a dict of four -/
def fDisp4 (k1 k2 k3 k4 : Str) (f1 f2 f3 f4 : FE) : FE := fun _ a P => f1 E0A a.hide fun d1 a1 => f2 E0A a1 fun d2 a2 => f3 E0A a2 fun d3 a3 => f4 E0A a3 fun d4 a4 => P (.dct (mergeD [] [(k1, d1), (k2, d2), (k3, d3), (k4, d4)])) ⟨a.ρ, a4.S⟩
theorem wok00 {B : Base} : WOk Z B W E0A := fun _ _ _ _ _ _ _ _ h => h.elim
theorem adisp4 {k1 k2 k3 k4 : Str} (a1 : AE X Z W e1 f1) (a2 : AE X Z W e2 f2) (a3 : AE X Z W e3 f3) (a4 : AE X Z W e4 f4) :
    AE X Z W (.Dict [some (.Constant (.str k1) j1 c1), some (.Constant (.str k2) j2 c2), some (.Constant (.str k3) j3 c3), some (.Constant (.str k4) j4 c4)] [e1, e2, e3, e4] pos) (fDisp4 k1 k2 k3 k4 f1 f2 f3 f4) := by
  obtain ⟨t1, p1, s1⟩ := a1.ex
  obtain ⟨t2, p2, s2⟩ := a2.ex
  obtain ⟨t3, p3, s3⟩ := a3.ex
  obtain ⟨t4, p4, s4⟩ := a4.ex
  refine ⟨_, pe_disp (pps_cons pe_str p1 (pps_cons pe_str p2 (pps_cons pe_str p3 (pps_cons pe_str p4 pps_nil)))) rfl rfl (by simp) (by simp), fun B σ H G a P Q E r w h k => ?_⟩
  intro p hp
  have r0 := r.unknown (o := .dK []) hp
  have l0 := r.loose (o := .dK []) hp
  obtain ⟨pd, hpd⟩ := r0.pd
  refine s1 _ σ _ G _ _ _ E0A (r0.sub hpd) wok00 h fun d1 a1 v1 H1 G1 h1 e1 r1 x1 => ?_
  refine s2 _ σ _ G1 _ _ _ E0A r1 wok00 h1 fun d2 a2 v2 H2 G2 h2 e2 r2 x2 => ?_
  refine s3 _ σ _ G2 _ _ _ E0A r2 wok00 h2 fun d3 a3 v3 H3 G3 h3 e3 r3 x3 => ?_
  refine s4 _ σ _ G3 _ _ _ E0A r3 wok00 h3 fun d4 a4 v4 H4 G4 h4 e4 r4 x4 => ?_
  have l4 := Loose.after r0 hpd l0 r4.toRelS
  have r5 := r0.after hpd r4.toRelS
  refine ⟨l4.h, [(Sum.inr k1, v1), (Sum.inr k2, v2), (Sum.inr k3, v3), (Sum.inr k4, v4)], rfl, by simp, ?_⟩
  obtain ⟨r6, l6⟩ := r5.bump (o' := .dK (mergeK [] [(Sum.inr k1, v1), (Sum.inr k2, v2), (Sum.inr k3, v3), (Sum.inr k4, v4)])) l4
  have r7 := r6.give l6
  have rk : Rk G4 [(k1, d1), (k2, d2), (k3, d3), (k4, d4)] [(Sum.inr k1, v1), (Sum.inr k2, v2), (Sum.inr k3, v3), (Sum.inr k4, v4)] := ⟨v1, _, rfl, x1.mono (e2.trans (e3.trans e4)), v2, _, rfl, x2.mono (e3.trans e4), v3, _, rfl, x3.mono e4, v4, _, rfl, x4, rfl⟩
  have rm := Rk.merge rk (ks := []) (ws := []) rfl
  have eg : Ex G4 (upd G4 p (.dK (mergeK [] [(Sum.inr k1, v1), (Sum.inr k2, v2), (Sum.inr k3, v3), (Sum.inr k4, v4)]))) := Ex.new l4.g
  exact k _ _ _ _ _ h4 ((e1.trans (e2.trans (e3.trans e4))).trans eg) r7 ⟨p, _, rfl, upd_same, rm.mono eg⟩
/-- {} -/
def nDict0 : FN := fun _ a P => P (.owd []) a
theorem adict0 : AN X Z W (.Dict [] [] pos) nDict0 := ⟨_, pe_dnewK, fun B σ H G a P Q E r w h k p hp => k _ _ _ _ _ _ h (Ex.refl _) r hp rfl⟩
/-! ### any, int -/
theorem bools_of {G : Hp} : ∀ {bs : List Bool} {vs : List V}, Rs G (bs.map D.bl) vs → vs = bs.map V.bl
  | [], _, h => by cases h; rfl
  | b :: r, _, h => by
    obtain ⟨v, vs, rfl, h1, h2⟩ := h
    have h1 : v = .bl b := h1
    rw [h1, bools_of h2]; rfl
def fAny (f : FE) : FE := fun E a P => f E a fun x a1 => match x with
  | .lst ds => ∃ bs : List Bool, ds = bs.map .bl ∧ P (.bl (bs.any id)) a1
  | _ => False
theorem aany (hc : X.calm = true) (a : AE X Z W e f) (hm : X.mg "any" = none) (hg : Gl X "any") (he : starEach [e] X.env = (false, eval e X.env) :: starEach [] X.env := by rfl) (hpl : (backTo pos (starEach [] X.env)).any (·.1) = false := by rfl) : AE X Z W (.Call (.Name "any" p) [e] [] pos) (fAny f) := by
  obtain ⟨ta, pa, sa⟩ := a.ex
  refine ⟨_, blt (cr_any hc) hm (pa_cons pa pa_nil he) hg (by decide +kernel) (by decide) (by decide) he hpl, fun B σ H G a P Q E rl w h k => sa B σ H G a _ _ E rl w h fun x a1 v H1 G1 h1 e1 r1 x1 => ?_⟩
  cases x with
  | lst ds =>
    obtain ⟨bs, rfl, h1⟩ := h1
    obtain ⟨q, vs, rfl, c1, c2⟩ := x1
    have c3 := bools_of c2
    subst c3
    exact ⟨q, bs, rfl, SqL.of (r1.gh _ _ c1), k _ _ _ _ _ h1 e1 r1 rfl⟩
  | _ => exact h1.elim
def fInt (f : FE) : FE := fun E a P => f E a fun x a1 => match x with
  | .int i => P (.int i) a1
  | _ => False
theorem aint (a : AE X Z W e f) (hm : X.mg "int" = none) (hg : Gl X "int") (he : starEach [e] X.env = (false, eval e X.env) :: starEach [] X.env := by rfl) (hpl : (backTo pos (starEach [] X.env)).any (·.1) = false := by rfl) : AE X Z W (.Call (.Name "int" p) [e] [] pos) (fInt f) := by
  obtain ⟨ta, pa, sa⟩ := a.ex
  refine ⟨_, pe_callTy call_int1 hg hm (by decide +kernel) (pa_cons pa pa_nil he) (by decide) (by decide) he hpl, fun B σ H G a P Q E rl w h k => sa B σ H G a _ _ E rl w h fun x a1 v H1 G1 h1 e1 r1 x1 => ?_⟩
  cases x with
  | int i => exact .inl ⟨i, by rw [show v = .int i from x1], k _ _ _ _ _ h1 e1 r1 rfl⟩
  | _ => exact h1.elim
def FPow : F2 := fun x y P => match x, y with
  | .int i, .int j => CPow i j ∧ P (.int (i ^ j.toNat))
  | _, _ => False
theorem ao_pow : AOp X (binaryOp .Pow) FPow := ⟨_, op_pow, fun H G x y dx dy P Q e hx hy h k => by
  cases dx with
  | int i => cases dy with
    | int j => exact ⟨i, j, hx, hy, h.1, (k _ h.2).int⟩
    | _ => exact h.elim
  | _ => exact h.elim⟩
/-! ### tuples whose object is known -/
theorem call_tupleX : CallR X (.type "tuple") (fun xs H Q => ∃ p ys, xs = [.ref p] ∧ SqL X.K H p ys ∧ ∀ l, H l = none → ∀ o : Obj, o.cls = .type "tuple" → o.dict = none → Q (.ref l) (upd H l (.frz o (.tup ys)))) := by
  intro pins s σ H xs us Q I r h
  obtain ⟨p, ys, rfl, hq, q⟩ := h
  obtain ⟨u, rfl, rx⟩ := vals1 r
  cases rx
  obtain ⟨its, r', pl, hz⟩ := I.list hq
  have hlen := r'.length
  refine call_tuple_list pl.isList (fun h' kp => ?_) (by simp only [List.size_toArray] <;> omega)
  have I1 : Inv X pins σ H { s with heap := h' } := I.kept (t' := s.toks) kp
  have I2 : Inv X pins σ (upd H h'.objs.size (.frz { cls := .type "tuple", data := .seq its.toArray } (.tup ys))) { s with heap := h'.push { cls := .type "tuple", data := .seq its.toArray } } :=
    I1.laid (t' := s.toks) (fun b o e => Heap.get?_push_of_some _ e) (Nat.le_refl _) ⟨Heap.get?_push_size _ rfl, show ObjOk X.prog X.w _ _ _ (.tup ys) from ⟨hz, its, r', PyProof.Rows.IsTup.new _ _⟩⟩
  exact ⟨.ref h'.objs.size, _, I2, rfl, q _ (I1.hok.fresh (Nat.le_refl _)) _ rfl rfl⟩
def fTplX (f : FE) : FE := fun E a P => f E a fun x a1 => match x with
  | .lst ds => P (.xt ds) a1
  | _ => False
theorem atplX (a : AE X Z W e f) (hm : X.mg "tuple" = none) (hg : Gl X "tuple") (he : starEach [e] X.env = (false, eval e X.env) :: starEach [] X.env := by rfl) (hpl : (backTo pos (starEach [] X.env)).any (·.1) = false := by rfl) : AE X Z W (.Call (.Name "tuple" p) [e] [] pos) (fTplX f) := by
  obtain ⟨ta, pa, sa⟩ := a.ex
  refine ⟨_, pe_callTy call_tupleX hg hm (by decide +kernel) (pa_cons pa pa_nil he) (by decide) (by decide) he hpl, fun B σ H G a P Q E rl w h k => sa B σ H G a _ _ E rl w h fun x a1 v H1 G1 h1 e1 r1 x1 => ?_⟩
  cases x with
  | lst ds =>
    obtain ⟨p, vs, rfl, q1, q2⟩ := x1
    exact ⟨p, vs, rfl, SqL.of (r1.gh _ _ q1), fun l hl o oc od => k _ _ _ _ _ h1 (e1.trans (r1.ex hl)) (r1.known hl) ⟨l, vs, o, rfl, upd_same, oc, od, q2.mono (r1.ex hl)⟩⟩
  | _ => exact h1.elim
theorem SqT.frz {K : PySem.W.Frag} {H : Hp} {a : Addr} {o : Obj} {xs : List V} (h : H a = some (.frz o (.tup xs))) : SqT K H a xs := .inl (.inr ⟨o, h⟩)
def fIxX (f g : FE) : FE := fun E a P => f E a fun x a1 => g E a1 fun y a2 => match x, y with
  | .xt ds, .int i => ∃ d, atI ds i = some d ∧ P d a2
  | _, _ => False
theorem aixX (a : AE X Z W e1 f) (b : AE X Z W e2 g) (hs : PlainIx e2 := by intro _ _; rfl) : AE X Z W (.Subscript e1 e2 pos) (fIxX f g) := by
  obtain ⟨ta, pa, sa⟩ := a.ex
  obtain ⟨tb, pb, sb⟩ := b.ex
  refine ⟨_, pe_ix ix_seq pa pb hs, fun B σ H G a P Q E rl w h k => sa B σ H G a _ _ E rl w h fun x a1 v H1 G1 h1 e1 r1 x1 => ?_⟩
  refine sb B σ H1 G1 a1 _ _ E r1 w h1 fun y a2 u H2 G2 h2 e2 r2 y2 => ?_
  have x2 := x1.mono e2
  cases x with
  | xt ds => cases y with
    | int i =>
      obtain ⟨p, vs, o, rfl, q1, _, _, q2⟩ := x2
      obtain ⟨d, hd, h2⟩ := h2
      obtain ⟨z, hz, rz⟩ := atI_R q2 hd
      exact .inr (.inl ⟨p, vs, i, z, rfl, y2, SqT.frz (r2.gh _ _ q1), hz, k _ _ _ _ _ h2 (e1.trans e2) r2 rz⟩)
    | _ => exact h2.elim
  | _ => exact h2.elim
def FInX : F2 := fun x y P => match y with
  | .xt ys => flatD x = true ∧ ys.all flatD = true ∧ P (.bl (inD x ys))
  | _ => False
theorem ao_inX : AOp X (compareOp .In) FInX := ⟨_, op_in_seq, fun H G x y dx dy P Q e hx hy h k => by
  cases dy with
  | xt ys =>
    obtain ⟨p, ws, o, rfl, q1, _, _, q2⟩ := hy
    obtain ⟨f1, f2, q⟩ := h
    refine ⟨p, ws, rfl, .inr (SqT.frz (e _ _ q1)), flat_of f1 hx, flats_of f2 q2, ?_⟩
    show Q (.bl (inV x ws)) H
    rw [inV_of f1 hx f2 q2]
    exact (k _ q).bl
  | _ => exact h.elim⟩
/-- the call of a method of a thing whose object is known -/
def tBX (K : PySem.W.Frag) (r : V → List V → Hp → VK → Prop) (to : TE) (t : TA) : TE := fun σ H Q => to σ H fun x H1 => (∃ p o xs, x = .ref p ∧ H1 p = some (.frz o (.tup xs)) ∧ o.cls = .type "tuple" ∧ o.dict = none) ∧ t σ H1 fun xs H2 => r x xs H2 Q
theorem pe_bmX {o e : Expr} {es : List Expr} {to : TE} {t : TA} {name : Str} {apos cpos : Pos} {id : String} {r : V → List V → Hp → VK → Prop} (pa : PlainAttrs "tuple") (slot : Slot "tuple" name id) (hty : typeOf (.builtin id) = pure (.type "method_descriptor")) (hm : MtR X id r) (ho : PE X o to) (ha : PA X (e :: es) t)
    (hbase : attributeBase o name X.env (eval o X.env) = eval o X.env := by rfl)
    (hfew : ((backTo cpos (starEach (e :: es) X.env)).all (fun x => !x.1) && (backToKw cpos (keywordEach [] X.env)).all (fun x => x.1.isSome)
      && decide ((e :: es).length + ([] : List Keyword).length + (if ([] : List Keyword).isEmpty then 0 else 1) < 30)) = true := by rfl)
    (hline : (apos.endLine == cpos.line) = true := by rfl) (hs : starEach (e :: es) X.env = (false, eval e X.env) :: starEach es X.env := by rfl) (hplain : (backTo cpos (starEach es X.env)).any (·.1) = false := by rfl) :
    PE X (.Call (.Attribute o name apos) (e :: es) [] cpos) (tBX X.K r to t) := by
  refine ⟨fun pins s σ H Q I h => ?_⟩
  refine wpAny_Call_method_late hbase hfew hline rfl (thn (ho.run pins s σ H _ I h) fun v s1 ⟨x, H1, I1, r1, ty, q1⟩ => ?_)
  obtain ⟨pp, oo, xs, rfl, hfz, oc, od⟩ := ty
  cases r1
  have hfo := (I1.hok pp _ hfz).1
  refine ⟨"tuple", id, pa, slot, hty, ⟨oo, hfo, oc⟩, fun a e2 => ?_, ?_⟩
  · cases e2; exact ⟨oo, hfo, od⟩
  have hA := ha.run cpos pins s1 σ H1 _ I1 q1
  rw [hs] at hA ⊢
  refine Calls.callWith_builtin (by show (false || (backTo cpos (starEach es X.env)).any (·.1)) = false; rw [hplain] <;> rfl) (Calls.evalArgs_plain ?_)
  exact thn hA fun us s2 ⟨vs, H2, I2, r2, q2⟩ => hm pins s2 σ H2 (.ref pp) vs _ us Q I2 rfl r2 q2
theorem strs_of {G : Hp} : ∀ {ss : List Str} {vs : List V}, Rs G (ss.map D.str) vs → vs = ss.map V.str
  | [], _, h => by cases h; rfl
  | b :: r, _, h => by
    obtain ⟨v, vs, rfl, h1, h2⟩ := h
    have h1 : v = .str b := h1
    rw [h1, strs_of h2]; rfl
def fIdxX (f g : FE) : FE := fun E a P => f E a fun x a1 => match x with
  | .xt ds => g E a1 fun y a2 => ∃ (ss : List Str) (z : Str) (j : Nat), ds = ss.map .str ∧ y = .str z ∧ ss[j]? = some z ∧ (∀ m, m < j → ss[m]? ≠ some z) ∧ P (.int (j : Nat)) a2
  | _ => False
theorem aidxX (a : AE X Z W e1 f) (b : AE X Z W e2 g) (hbase : attributeBase e1 "index" X.env (eval e1 X.env) = eval e1 X.env := by rfl)
    (hfew : ((backTo p (starEach [e2] X.env)).all (fun z => !z.1) && (backToKw p (keywordEach [] X.env)).all (fun z => z.1.isSome) && decide ([e2].length + ([] : List Keyword).length + (if ([] : List Keyword).isEmpty then 0 else 1) < 30)) = true := by rfl)
    (hline : (apos.endLine == p.line) = true := by rfl) (hs : starEach [e2] X.env = (false, eval e2 X.env) :: starEach [] X.env := by rfl) (hplain : (backTo p (starEach [] X.env)).any (·.1) = false := by rfl) :
    AE X Z W (.Call (.Attribute e1 "index" apos) [e2] [] p) (fIdxX f g) := by
  obtain ⟨ta, pa, sa⟩ := a.ex
  obtain ⟨tb, pb, sb⟩ := b.ex
  refine ⟨_, pe_bmX PySem.F.plainAttrs_tuple PySem.F.slot_tuple_index PySem.F.type_tuple_index mt_tup_index pa (pa_cons pb pa_nil hs) hbase hfew hline hs hplain, fun B σ H G a P Q E rl w h k => sa B σ H G a _ _ E rl w h fun x a1 v H1 G1 h1 e1 r1 x1 => ?_⟩
  cases x with
  | xt ds =>
    obtain ⟨q, vs, o, rfl, c1, c2, c3, c4⟩ := x1
    refine ⟨⟨q, o, vs, rfl, r1.gh _ _ c1, c2, c3⟩, sb B σ H1 G1 a1 _ _ E r1 w h1 fun y a2 u H2 G2 h2 e2 r2 y2 => ?_⟩
    obtain ⟨ss, z, j, rfl, rfl, hj, hn, hk⟩ := h2
    have c5 := strs_of c4
    subst c5
    have y2 : u = .str z := y2
    subst y2
    exact ⟨q, ss, z, j, rfl, rfl, SqT.frz (r2.gh _ _ (e2 _ _ c1)), hj, hn, k _ _ _ _ _ hk (e1.trans e2) r2 rfl⟩
  | _ => exact h1.elim
end
end Ab


namespace Ab
open PySem L2
section
variable {Z : Cl} {B : Base} {σ : St} {H G : Hp} {a : A} {S : Option Stk} {p : Addr} {o' : HO}
/-- the state's list is written -/
theorem RelS.rngw (r : RelS Z B H G S) (hr : B.r = some p) (hn : RngAt (upd H p o') G p) : RelS Z B (upd H p o') G S := by
  obtain ⟨s1, s2⟩ := r.rn p hr
  obtain ⟨i0, i1, i3, s, ns, t1, t2, t3, t4⟩ := s1
  have hne : ∀ z o, H z = some o → o ≠ .lst [.int i0, .int i1, .ref s, .int i3] → z ≠ p := fun z o hz ho e => by rw [e, t1] at hz; cases hz; exact ho rfl
  refine ⟨fun z w hz => ?_, r.g0, r.new, fun z hz => ?_, fun z w hz hm => ?_, ?_, fun z hz => ?_, r.qn, fun t ht => ?_⟩
  · rw [upd_ne (fun e => by rw [e, t2] at hz; cases hz)]; exact r.gh z w hz
  · by_cases e : z = p
    · rw [e, upd_same]; simp
    · rw [upd_ne e]; exact r.dom z hz
  · rw [upd_ne (fun e => hm (.inr (.inr (.inl (by rw [e]; exact hr)))))]; exact r.keep z w hz hm
  · have st := r.st
    cases S with
    | none => exact st
    | some S =>
      obtain ⟨q, pd, k1, k2, k3⟩ := st
      have k4 := k2
      obtain ⟨dx, vb, vw, ws, u1, u2, u3, u4, _⟩ := k4
      exact ⟨q, pd, k1, k2.keep (Ex.refl _) (upd_ne (hne q _ u1 (by simp))) (upd_ne (hne pd _ u2 (by simp))) u3 u4, k3⟩
  · rw [hr] at hz; cases hz
    exact ⟨hn, s2⟩
  · obtain ⟨⟨ps, k1, k2⟩, k3, k4⟩ := r.tb t ht
    exact ⟨⟨ps, by rw [upd_ne (hne t _ k1 (by simp))]; exact k1, k2⟩, k3, k4⟩
theorem Rel.rngw (r : Rel Z B σ H G a) (hr : B.r = some p) (hn : RngAt (upd H p o') G p) : Rel Z B σ (upd H p o') G a := by
  have rs := r.toRelS.rngw hr hn
  obtain ⟨s1, s2⟩ := r.rn p hr
  refine r.slots rs (fun j y hj hy hz => ?_) fun q p' hq _ k => ?_
  · obtain ⟨u, u1, u2⟩ := r.sl j y hj
    rw [u1] at hz
    cases hz
    cases y with
    | owl ds => obtain ⟨p', vs', e, w1, w2, w3, _⟩ := u2; cases e; exact s2 w3
    | owd ds => obtain ⟨p', vs', e, w1, w2, w3, _⟩ := u2; cases e; exact s2 w3
    | _ => cases hy
  · obtain ⟨C, dx, fs, k1, k2⟩ := k
    by_cases e : q = p
    · subst e
      obtain ⟨i0, i1, i3, s, ns, t1, t2, t3, t4⟩ := hn
      rw [k1] at t1; cases t1
    · rw [upd_ne e] at k1; exact ⟨C, dx, fs, k1, k2⟩
end
section
variable {X : Cx} {Z : Cl} {W : WX} {e e1 e2 : Expr} {f : FE} {pos pos' pos2 pos3 p p2 p3 p4 p5 p6 p7 p8 p9 p10 p11 : Pos} {i j l : Nat} {x y z : Str} {k : Int} {jk jk2 jk3 : Nat}
def fRng (i : Nat) (k : Int) : FE := fun _ a P => match a.ρ[i]? with
  | some (some .rng) => (k = 0 ∨ k = 1 ∨ k = 3) ∧ ∀ n : Int, (k = 1 → 0 ≤ n) → P (.int n) a
  | _ => False
theorem arng (i : Nat) (hN : X.N[i]? = some x := by rfl) (hv : Vis X.env.scope x := by first | exact Or.inl rfl | exact Or.inr (Or.inl rfl) | exact Or.inr (Or.inr rfl)) (hd : (x == ("__debug__" : Str)) = false := by decide) (hcd : (x == ("__classdict__" : Str)) = false := by decide)
    (hs : PlainIx (.Constant (.int k) jk p3) := by intro _ _; rfl) : AE X Z W (.Subscript (.Name x p2) (.Constant (.int k) jk p3) pos) (fRng i k) := by
  refine ⟨_, pe_ix ix_seq (pe_var hN hv hd hcd) pe_int hs, fun B σ H G a P Q E r w h kk => ?_⟩
  unfold fRng at h
  split at h
  · rename_i hi
    obtain ⟨v, h1, q, h2, rfl⟩ := r.sl i _ hi
    obtain ⟨⟨i0, i1, i3, s, ns, t1, t2, t3, t4⟩, _⟩ := r.rn q h2
    obtain ⟨hk, h⟩ := h
    have go : ∀ n : Int, atI [V.int i0, .int i1, .ref s, .int i3] k = some (.int n) → (k = 1 → 0 ≤ n) → tOp (rIx X.K) (tVar i) (tC (.int k)) σ H Q := fun n e1 e2 => ⟨_, h1, .inl ⟨q, _, k, _, rfl, rfl, SqL.of t1, e1, kk _ _ _ _ _ (h n e2) (Ex.refl _) r rfl⟩⟩
    rcases hk with rfl | rfl | rfl
    · exact go i0 rfl (fun e => by cases e)
    · exact go i1 rfl fun _ => t4
    · exact go i3 rfl (fun e => by cases e)
  · exact h.elim
def sSetR (i : Nat) (k : Int) (f : FE) : FS := fun En a => f En.ex a fun d a1 => match a1.ρ[i]?, d with
  | some (some .rng), .int n => (k = 0 ∨ k = 1 ∨ k = 3) ∧ (k = 1 → 0 ≤ n) ∧ En.nx a1
  | _, _ => False
theorem s_setR (i : Nat) (a : AE X Z W e f) (hN : X.N[i]? = some x := by rfl) (hv : Vis X.env.scope x := by first | exact Or.inl rfl | exact Or.inr (Or.inl rfl) | exact Or.inr (Or.inr rfl)) (hd : (x == ("__debug__" : Str)) = false := by decide) (hcd : (x == ("__classdict__" : Str)) = false := by decide)
    (ha : ∀ v, assign (.Subscript (.Name x p2) (.Constant (.int k) jk p3) pos') X.env v = (do let ov ← holding [v] (eval (.Name x p2) X.env); let iv ← holding [v, ov] (eval (.Constant (.int k) jk p3) X.env); standAt pos'; holding [v, ov, iv] (setItem ov iv v); release [v, ov, iv] []) := by intro _; rfl)
    (hs : swapsWithSole [.Subscript (.Name x p2) (.Constant (.int k) jk p3) pos'] e pos.line X.env = pure false := by rfl) (hw : swappedStores [.Subscript (.Name x p2) (.Constant (.int k) jk p3) pos'] e X.env = pure none := by rfl)
    (h1 : (assignEach [.Subscript (.Name x p2) (.Constant (.int k) jk p3) pos'] X.env).map (·.2) = [assign (.Subscript (.Name x p2) (.Constant (.int k) jk p3) pos') X.env] := by rfl) : AS X Z W (.Assign [.Subscript (.Name x p2) (.Constant (.int k) jk p3) pos'] e pos) (sSetR i k f) := by
  obtain ⟨t, pa, sa⟩ := a.ex
  refine ⟨_, ps_asg pa (pg_sub (pe_var hN hv hd hcd) pe_int set_list ha) hs hw h1, fun B σ H G a Dn En r w kk h => sa B σ H G a _ _ _ r w h fun d a1 v H1 G1 q1 e1 r1 x1 => ?_⟩
  split at q1
  · rename_i n hi
    obtain ⟨v2, k1, q, k2, rfl⟩ := r1.sl i _ hi
    obtain ⟨⟨i0, i1, i3, s, ns, t1, t2, t3, t4⟩, _⟩ := r1.rn q k2
    have x1 : v = .int n := x1
    subst x1
    obtain ⟨hk, q2, q3⟩ := q1
    have go : ∀ (j : Nat) (i0' i1' i3' : Int), ixN 4 k = some j → ([V.int i0, .int i1, .ref s, .int i3].set j (.int n)) = [.int i0', .int i1', .ref s, .int i3'] → 0 ≤ i1' → gSub (tVar i) (tC (.int k)) rSetL (.int n) σ H1 fun σ' H' => Dn.nx σ' H' := fun j i0' i1' i3' e1 e2 e3 => by
      refine ⟨_, k1, q, _, k, j, rfl, rfl, t1, e1, ?_⟩
      rw [e2]
      exact kk.nx _ _ _ _ (r1.rngw k2 ⟨i0', i1', i3', s, ns, upd_same, t2, t3, e3⟩) q3
    rcases hk with rfl | rfl | rfl
    · exact go 0 n i1 i3 rfl rfl t4
    · exact go 1 i0 n i3 rfl rfl (q2 rfl)
    · exact go 3 i0 i1 n rfl rfl t4
  · exact q1.elim
/-- if position < len(state[2]): cell = state[2][position] -/
def sCell (i j l : Nat) : FS := fun En a => match a.ρ[i]?, a.ρ[j]?, a.ρ[l]? with
  | some (some .rng), some (some (.im (.int n))), some (some (.im (.int _))) => 0 ≤ n ∧ ∀ c : Int, En.nx (a.put l (.im (.int c)))
  | _, _, _ => False
theorem s_cell (i j l : Nat) {p12 p13 p14 p15 : Pos} (hm : X.mg "len" = none) (hND : X.N.Nodup) (hg : Gl X "len") (hN : X.N[i]? = some x := by rfl) (hNj : X.N[j]? = some y := by rfl) (hNl : X.N[l]? = some z := by rfl)
    (hv : Vis X.env.scope x := by first | exact Or.inl rfl | exact Or.inr (Or.inl rfl) | exact Or.inr (Or.inr rfl)) (hvj : Vis X.env.scope y := by first | exact Or.inl rfl | exact Or.inr (Or.inl rfl) | exact Or.inr (Or.inr rfl)) (hl : Loc X.env.scope z := by first | exact Or.inl rfl | exact Or.inr rfl)
    (hd : (x == ("__debug__" : Str)) = false := by decide) (hcd : (x == ("__classdict__" : Str)) = false := by decide) (hdj : (y == ("__debug__" : Str)) = false := by decide) (hcdj : (y == ("__classdict__" : Str)) = false := by decide)
    (h1 : PlainIx (.Constant (.int 2) jk p5) := by intro _ _; rfl) (h2 : PlainIx (.Constant (.int 2) jk2 p11) := by intro _ _; rfl) (h3 : PlainIx (.Name y p13) := by intro _ _; rfl)
    (he : starEach [.Subscript (.Name x p4) (.Constant (.int 2) jk p5) p6] X.env = (false, eval (.Subscript (.Name x p4) (.Constant (.int 2) jk p5) p6) X.env) :: starEach [] X.env := by rfl) (hpl : (backTo p7 (starEach [] X.env)).any (·.1) = false := by rfl)
    (hs : swapsWith (.Subscript (.Subscript (.Name x p10) (.Constant (.int 2) jk2 p11) p12) (.Name y p13) p14) (some (.Name z p9)) p15.line X.env = pure false := by rfl) (hf : X.fn z = true ∨ X.env.scope.names.lookup z = some .local := by first | exact .inl rfl | exact .inr rfl) :
    AS X Z W (.If (.Compare (.Name y p2) [.Lt] [.Call (.Name "len" p3) [.Subscript (.Name x p4) (.Constant (.int 2) jk p5) p6] [] p7] p8) [.Assign [.Name z p9] (.Subscript (.Subscript (.Name x p10) (.Constant (.int 2) jk2 p11) p12) (.Name y p13) p14) p15] [] pos) (sCell i j l) := by
  refine ⟨_, ps_if (pt_cmpR op_lt (pe_var hNj hvj hdj hcdj) (pe_callB call_len hg hm boot_len (pa_cons (pe_ix ix_seq (pe_var hN hv hd hcd) pe_int h1) pa_nil he) (by decide) (by decide) he hpl) (nomark _)) (pss_one (ps_set hND hNl hl (pe_ix ix_seq (pe_ix ix_seq (pe_var hN hv hd hcd) pe_int h2) (pe_var hNj hvj hdj hcdj) h3) hs hf)) pss_nil, fun B σ H G a Dn En r w kk h => ?_⟩
  unfold sCell at h
  split at h
  · rename_i n c0 hi hj hl'
    obtain ⟨v1, k1, q, k2, rfl⟩ := r.sl i _ hi
    obtain ⟨v2, k3, k4⟩ := r.sl j _ hj
    have k4 : v2 = .int n := k4
    subst k4
    obtain ⟨v3, k5, k6⟩ := r.sl l _ hl'
    obtain ⟨⟨i0, i1, i3, s, ns, t1, t2, t3, t4⟩, _⟩ := r.rn q k2
    obtain ⟨h0, h⟩ := h
    have hsl : SqL X.K H s (ns.map V.int) := SqL.of (r.gh _ _ t3)
    refine ⟨_, k3, _, k1, .inl ⟨q, _, 2, .ref s, rfl, rfl, SqL.of t1, rfl, ?_⟩⟩
    refine ⟨.ref s, (ns.map V.int).length, rfl, .inl ⟨_, hsl, rfl⟩, ?_⟩
    refine ⟨_, _, rfl, rfl, decide (n < ((ns.map V.int).length : Int)), rfl, ?_⟩
    by_cases c : n < ((ns.map V.int).length : Int)
    · rw [decide_eq_true c]
      dsimp only []
      rw [if_pos rfl]
      rw [List.length_map] at c
      have hlt : n.toNat < ns.length := by omega
      refine ⟨_, k1, .inl ⟨q, _, 2, .ref s, rfl, rfl, SqL.of t1, rfl, _, k3, .inl ⟨s, _, n, .int ns[n.toNat], rfl, rfl, hsl, ?_, ?_⟩⟩⟩
      · unfold atI ixN
        rw [if_pos h0, List.length_map, if_pos (by omega)]
        show (ns.map V.int)[n.toNat]? = _
        rw [List.getElem?_map, List.getElem?_eq_getElem hlt]; rfl
      · exact kk.nx _ _ _ _ (r.setIm (show R G (.int ns[n.toNat]) (.int ns[n.toNat]) from rfl)) (h _)
    · rw [decide_eq_false c]
      dsimp only []
      rw [if_neg Bool.false_ne_true]
      have := h c0
      unfold A.put at this
      rw [set_self hl'] at this
      exact kk.nx _ _ _ _ r this
  · exact h.elim
end
end Ab


namespace Ab
open PySem L2
/-! ### defs whose body is a try -/
structure ASs0 (X : Cx) (Z : Cl) (W : WX) (st : List Stmt) (f : FS) : Prop where
  ex : ∃ t, PSs X st t ∧ ∀ B σ H G a Dn En, B.GK = B.G0 → Rel Z B σ H G a → WOk Z B W En.ex → EndsOk Z B Dn En → f En a → t Dn σ H
def canSs (Z : Cl) (W : WX) (s : FS) : TS := fun Dn σ H => ∃ B G a En, Rel Z B σ H G a ∧ WOk Z B W En.ex ∧ EndsOk Z B Dn En ∧ s En a
section
variable {X : Cx} {Z : Cl} {W : WX} {st : List Stmt} {s : FS}
theorem ASs.pss (h : ASs X Z W st s) : PSs X st (canSs Z W s) := by
  obtain ⟨t, p, sd⟩ := h.ex
  exact ⟨fun pins s' σ H D I ⟨B, G, a, En, r, w, k, q⟩ => p.run pins s' σ H D I (sd B σ H G a D En r w k q)⟩
/-- the class of an error, caught or not -/
structure Catch (K : PySem.W.Frag) (Z : Cl) : Prop where
  no_no : PySem.W.exmOne K (.ref Z.noSuch) (.ref Z.noSuch) = some true
  rf_no : PySem.W.exmOne K (.ref Z.refused) (.ref Z.noSuch) = some false
  rf_rf : PySem.W.exmOne K (.ref Z.refused) (.ref Z.refused) = some true
  cf_no : PySem.W.exmOne K (.ref Z.conflict) (.ref Z.noSuch) = some false
  cf_rf : PySem.W.exmOne K (.ref Z.conflict) (.ref Z.refused) = some false
  cf_cf : PySem.W.exmOne K (.ref Z.conflict) (.ref Z.conflict) = some true
  nm_no : PySem.W.exmOne K (.ref Z.invName) (.ref Z.noSuch) = some false
  nm_rf : PySem.W.exmOne K (.ref Z.invName) (.ref Z.refused) = some false
  nm_cf : PySem.W.exmOne K (.ref Z.invName) (.ref Z.conflict) = some false
  nm_nm : PySem.W.exmOne K (.ref Z.invName) (.ref Z.invName) = some true
  no_nm : PySem.W.exmOne K (.ref Z.noSuch) (.ref Z.invName) = some false
theorem Rel.fresh0 {B : Base} {H G : Hp} {S : Option Stk} {σ : St} (hk : B.GK = B.G0) (r : RelS Z B H G S) : Rel Z B σ H G ⟨List.replicate σ.length none, S⟩ := by
  have no : ∀ {i : Nat} {x : AV}, (List.replicate σ.length (none : Option AV))[i]? ≠ some (some x) := fun {i x} h => by
    rw [List.getElem?_replicate] at h
    split at h <;> cases h
  exact ⟨r, by simp, fun i x h => absurd h no, fun i j p x y _ h => absurd h no, by rw [hk]; exact r.g0⟩
/-- the name of the error that was caught -/
def tErr (i : Nat) (v : V) : TE := fun σ H Q => (i < σ.length → σ[i]? = some (some v)) ∧ Q v H
theorem pe_err {i : Nat} {x : Str} {v : V} {pos : Pos} (hN : X.N[i]? = some x) (hv : Vis X.env.scope x) (hd : (x == ("__debug__" : Str)) = false) (hcd : (x == ("__classdict__" : Str)) = false) : PE X (.Name x pos) (tErr i v) :=
  ⟨fun pins s σ H Q I h => (pe_var hN hv hd hcd).run pins s σ H Q I ⟨v, h.1 (by rw [I.len]; exact (List.getElem?_eq_some_iff.mp hN).1), h.2⟩⟩
def hvDo : Err → Option D
  | .noSuch => some (.tup [.str "none"])
  | .refused w => some (.tup [.str "refused", .str w])
  | .conflict => some (.tup [.str "clash"])
  | .invName w => some (.tup [.str "name", .str w])
def hvCan : Err → Option D
  | .noSuch => some (.str "none")
  | .invName w => some (.str w)
  | _ => none
def sTryRet (s : FS) (hv : Err → Option D) : FS := fun En a => s { nx := fun a' => En.rt .non a', rt := En.rt, ex := fun err S => match hv err with
  | some d => ∀ ρ, En.rt d ⟨ρ, S⟩
  | none => False } a
variable {body : List Stmt} {i : Nat} {x : Str} {jn j1 j2 j3 j4 k1 k2 k3 k4 : Nat} {pos q0 q1 q2 q3 q4 q5 q6 q7 q8 q9 r0 r1 r2 r3 r4 r5 r6 r7 r8 r9 u0 u1 u2 u3 u4 u5 u6 u7 u8 u9 : Pos} {f1 f2 : Addr} {qu1 qu2 : Str}
theorem s_tryDo (i : Nat) (Ca : Catch X.K Z) (T1 : PySem.Vx.ErrTxt X.prog X.K X.mg "Refused" "branch" qu1 Z.refused f1) (T2 : PySem.Vx.ErrTxt X.prog X.K X.mg "InvalidName" "name" qu2 Z.invName f2) (hs : X.stack = X.env :: X.outer) (hf : X.env.frame = some X.env.locals) (hND : X.N.Nodup) (tk : Takes X W)
    (n1 : Names X "NoSuch" (.ref Z.noSuch)) (n2 : Names X "Refused" (.ref Z.refused)) (n3 : Names X "Conflict" (.ref Z.conflict)) (n4 : Names X "InvalidName" (.ref Z.invName)) (hN : X.N[i]? = some x) (hv : Vis X.env.scope x) (hd : (x == ("__debug__" : Str)) = false) (hcd : (x == ("__classdict__" : Str)) = false) (hl : X.env.kindOf x = some .local)
    (hb : ∀ (W : WX) (pn : List (Addr × Obj)) (xe : Value → Shared → Prop), Takes (X.tr pn xe) W → PassesOwn (model X.prog X.w) X.A X.env xe → ASs (X.tr pn xe) Z W body s) :
    ASs0 X Z W [.Try body [.ExceptHandler (some (.Name "NoSuch" q0)) none [.Return (some (.Tuple [.Constant (.str "none") j1 q1] k1 q2)) q3] q4,
      .ExceptHandler (some (.Name "Refused" r0)) (some x) [.Return (some (.Tuple [.Constant (.str "refused") j2 r1, .Attribute (.Name x r2) "branch" r3] k2 r4)) r5] r6,
      .ExceptHandler (some (.Name "Conflict" q5)) none [.Return (some (.Tuple [.Constant (.str "clash") j3 q6] k3 q7)) q8] q9,
      .ExceptHandler (some (.Name "InvalidName" u0)) (some x) [.Return (some (.Tuple [.Constant (.str "name") j4 u1, .Attribute (.Name x u2) "name" u3] k4 u4)) u5] u6] [] [] pos, .Return (some (.Constant .none jn u7)) u8] (sTryRet s hvDo) := by
  refine ⟨_, pss_cons (ps_try_mix hs hf hND tk (fun W pn xe t1 t2 => (hb W pn xe t1 t2).pss)
    (.plain n1 (fun a oe cls d pn hz hff => pss_one (ps_ret (pe_tup (pa_cons pe_str pa_nil rfl))))
      (.named hN hl n2 (fun a oe cls d pn hz hff => pss_one (ps_ret (pe_tup (pa_cons pe_str (pa_cons (pe_byE T1 hz hff (pe_err (X := X.suite a ((a, oe) :: pn)) (v := .ref a) hN hv hd hcd) rfl) pa_nil rfl) rfl))))
        (.plain n3 (fun a oe cls d pn hz hff => pss_one (ps_ret (pe_tup (pa_cons pe_str pa_nil rfl))))
          (.named hN hl n4 (fun a oe cls d pn hz hff => pss_one (ps_ret (pe_tup (pa_cons pe_str (pa_cons (pe_byE T2 hz hff (pe_err (X := X.suite a ((a, oe) :: pn)) (v := .ref a) hN hv hd hcd) rfl) pa_nil rfl) rfl))))
            .nil))))) (pss_one (ps_ret pe_non)), fun B σ H G a Dn En hk r w k h => ?_⟩
  refine ⟨B, G, a, _, r, ?_, ?_, h⟩
  · rintro err σ H G S c d rs he hc
    have R0 : ∀ σ : St, Rel Z B σ H G ⟨List.replicate σ.length none, S⟩ := fun σ => Rel.fresh0 hk rs
    have one : ∀ (σ : St) (t : Str) (p : Addr), H p = none → En.rt (.tup [.str t]) ⟨List.replicate σ.length none, S⟩ → Dn.rt (.ref p) (upd H p (.tup [.str t])) := fun σ t p hp hq =>
      k.rt (.tup [.str t]) _ σ _ _ _ ((R0 σ).known hp) ⟨p, _, rfl, upd_same, Rs.one (show R _ (.str t) (.str t) from rfl)⟩ hq
    have two : ∀ (σ : St) (t u : Str) (p : Addr), H p = none → En.rt (.tup [.str t, .str u]) ⟨List.replicate σ.length none, S⟩ → Dn.rt (.ref p) (upd H p (.tup [.str t, .str u])) := fun σ t u p hp hq =>
      k.rt (.tup [.str t, .str u]) _ σ _ _ _ ((R0 σ).known hp) ⟨p, _, rfl, upd_same, Rs.cons (show R _ (.str t) (.str t) from rfl) (Rs.one (show R _ (.str u) (.str u) from rfl))⟩ hq
    have set_i : ∀ (a : Addr), i < (σ.set i (some (.ref a))).length → (σ.set i (some (V.ref a)))[i]? = some (some (.ref a)) := fun a h => by
      rw [List.length_set] at h
      simp [h]
    cases err with
    | noSuch =>
      have hc : c = .ref Z.noSuch := hc
      subst hc
      exact ⟨true, Ca.no_no, fun _ a ha => ⟨by decide, fun p hp => one σ _ p hp (he _)⟩, fun z => by cases z⟩
    | conflict =>
      have hc : c = .ref Z.conflict := hc
      subst hc
      exact ⟨false, Ca.cf_no, fun z => (by cases z), fun _ => ⟨false, Ca.cf_rf, fun z => (by cases z), fun _ => ⟨true, Ca.cf_cf, fun _ a ha => ⟨by decide, fun p hp => one σ _ p hp (he _)⟩, fun z => by cases z⟩⟩⟩
    | refused v =>
      obtain ⟨hc, dd, hd1, hd2⟩ := hc
      subst hc
      exact ⟨false, Ca.rf_no, fun z => (by cases z), fun _ => ⟨true, Ca.rf_rf, fun _ a ha => ⟨set_i a, rfl, rfl, dd, _, hd1, hd2, (show 2 ≤ sizeLine from sz3), fun p hp => two σ _ _ p hp (he _)⟩, fun z => by cases z⟩⟩
    | invName v =>
      obtain ⟨hc, dd, hd1, hd2⟩ := hc
      subst hc
      exact ⟨false, Ca.nm_no, fun z => (by cases z), fun _ => ⟨false, Ca.nm_rf, fun z => (by cases z), fun _ => ⟨false, Ca.nm_cf, fun z => (by cases z), fun _ => ⟨true, Ca.nm_nm, fun _ a ha => ⟨set_i a, rfl, rfl, dd, _, hd1, hd2, (show 2 ≤ sizeLine from sz3), fun p hp => two σ _ _ p hp (he _)⟩, fun z => by cases z⟩⟩⟩⟩
  · exact ⟨fun σ H G a r h => k.rt .non .non σ H G a r rfl h, k.rt, fun _ _ _ _ _ z => z.elim, fun _ _ _ _ _ z => z.elim⟩
def sTryC (s : FS) (hv : Err → Option D) : FS := fun En a => s { nx := En.nx, rt := En.rt, ex := fun err S => match hv err with
  | some d => ∀ ρ, En.rt d ⟨ρ, S⟩
  | none => False } a
theorem s_tryCan (i : Nat) (Ca : Catch X.K Z) (T2 : PySem.Vx.ErrTxt X.prog X.K X.mg "InvalidName" "name" qu2 Z.invName f2) (hs : X.stack = X.env :: X.outer) (hf : X.env.frame = some X.env.locals) (hND : X.N.Nodup) (tk : Takes X W)
    (n1 : Names X "NoSuch" (.ref Z.noSuch)) (n4 : Names X "InvalidName" (.ref Z.invName)) (hN : X.N[i]? = some x) (hv : Vis X.env.scope x) (hd : (x == ("__debug__" : Str)) = false) (hcd : (x == ("__classdict__" : Str)) = false) (hl : X.env.kindOf x = some .local)
    (hb : ∀ (W : WX) (pn : List (Addr × Obj)) (xe : Value → Shared → Prop), Takes (X.tr pn xe) W → PassesOwn (model X.prog X.w) X.A X.env xe → ASs (X.tr pn xe) Z W body s) :
    ASs0 X Z W [.Try body [.ExceptHandler (some (.Name "InvalidName" u0)) (some x) [.Return (some (.Attribute (.Name x u2) "name" u3)) u5] u6, .ExceptHandler (some (.Name "NoSuch" q0)) none [.Return (some (.Constant (.str "none") j1 q1)) q3] q4] [] [] pos] (sTryC s hvCan) := by
  refine ⟨_, pss_one (ps_try_mix hs hf hND tk (fun W pn xe t1 t2 => (hb W pn xe t1 t2).pss)
    (.named hN hl n4 (fun a oe cls d pn hz hff => pss_one (ps_ret (pe_byE T2 hz hff (pe_err (X := X.suite a ((a, oe) :: pn)) (v := .ref a) hN hv hd hcd) rfl)))
      (.plain n1 (fun a oe cls d pn hz hff => pss_one (ps_ret pe_str)) .nil))), fun B σ H G a Dn En hk r w k h => ?_⟩
  refine ⟨B, G, a, _, r, ?_, ?_, h⟩
  · rintro err σ H G S c d rs he hc
    have R0 : ∀ σ : St, Rel Z B σ H G ⟨List.replicate σ.length none, S⟩ := fun σ => Rel.fresh0 hk rs
    have set_i : ∀ (a : Addr), i < (σ.set i (some (.ref a))).length → (σ.set i (some (V.ref a)))[i]? = some (some (.ref a)) := fun a h => by
      rw [List.length_set] at h
      simp [h]
    cases err with
    | noSuch =>
      have hc : c = .ref Z.noSuch := hc
      subst hc
      exact ⟨false, Ca.no_nm, fun z => (by cases z), fun _ => ⟨true, Ca.no_no, fun _ a ha => k.rt (.str "none") _ σ _ _ _ (R0 σ) rfl (he _), fun z => by cases z⟩⟩
    | invName v =>
      obtain ⟨hc, dd, hd1, hd2⟩ := hc
      subst hc
      exact ⟨true, Ca.nm_nm, fun _ a ha => ⟨set_i a, rfl, rfl, dd, _, hd1, hd2, k.rt (.str v) _ σ _ _ _ (R0 σ) rfl (he _)⟩, fun z => by cases z⟩
    | conflict => exact he.elim
    | refused v => exact he.elim
  · exact ⟨k.nx, k.rt, fun _ _ _ _ _ z => z.elim, fun _ _ _ _ _ z => z.elim⟩
end
section
variable {P : Program} {w : World} {K : PySem.W.Frag} {mg : Str → Option Value} {base : Heap} {Z : Cl}
theorem aok0 {x qual : Str} {st : Stmt} {f : Addr} {fd : FuncData} {N ps : List Str} {k n : Nat} {F : FD} (Fn : Fun K x qual st f fd) (Sc : FnScope N ps (defScope st)) (hn : ps.length = n)
    (hbody : ∀ (cdv : Value) (A : Around) (outer : List Env) (s : Shared) (H : Hp) (E : XK), Room k (A.deeper (PyProof.Rows.envOfC qual (defScope st) s.heap.objs.size f cdv)) →
      ∃ r, ASs0 (cxOf (L2.CX P w) P w K mg base N qual (defScope st) f cdv A outer s H E) Z (fun c d _ H => E c d H) (defBody st) r ∧ ∀ EA xs S Q, F EA xs S Q → xs.length = n → r (endA EA Q) ⟨startA N.length xs, S⟩) :
    FnOk P w K mg base (L2.CX P w) (k + 1) f fd ps (spA Z n F) := by
  refine Fn.okX Sc (spA_len hn) fun cdv A outer s H vs Q E hr h => ?_
  obtain ⟨B, xs, S, P', EA, h1, h2, h3, h4, h5, h6, h7, h8, h9⟩ := h
  obtain ⟨r, hr1, hr2⟩ := hbody cdv A outer s H E hr
  obtain ⟨t, p, sd⟩ := hr1.ex
  refine ⟨t, p, sd B _ H B.G0 ⟨startA N.length xs, S⟩ _ (endA EA P') h4 (Rel.begin h5 h4 h6) (fun err σ H G S c d rl he hc => h9 err S H G c d he rl hc) ⟨fun σ H G a rl hq => h8 _ _ _ _ _ hq rl.toRelS rfl, fun d v σ H G a rl hv hq => h8 _ _ _ _ _ hq rl.toRelS hv, fun _ _ _ _ _ z => z.elim, fun _ _ _ _ _ z => z.elim⟩ (hr2 EA xs S P' h7 h1)⟩
end
end Ab


namespace Ab
open PySem L2
/-! ### the law's world -/
def wl (W : Wd) (pk : List (Str × D)) : List (Str × D) := [("base", strsD W.base), ("words", .lst (W.words.map .str)), ("patches", .dct pk), ("many", .int (W.many : Nat))]
theorem ne_bw : ¬ ("base" : Str) = "words" := by decide +kernel
theorem ne_bp : ¬ ("base" : Str) = "patches" := by decide +kernel
theorem ne_bm : ¬ ("base" : Str) = "many" := by decide +kernel
theorem ne_wp : ¬ ("words" : Str) = "patches" := by decide +kernel
theorem ne_wm : ¬ ("words" : Str) = "many" := by decide +kernel
theorem ne_pm : ¬ ("patches" : Str) = "many" := by decide +kernel
theorem ne_wb : ¬ ("words" : Str) = "base" := by decide +kernel
theorem ne_pb : ¬ ("patches" : Str) = "base" := by decide +kernel
theorem ne_mb : ¬ ("many" : Str) = "base" := by decide +kernel
theorem ne_pw : ¬ ("patches" : Str) = "words" := by decide +kernel
theorem ne_mw : ¬ ("many" : Str) = "words" := by decide +kernel
theorem ne_mp : ¬ ("many" : Str) = "patches" := by decide +kernel
abbrev l4 (b w p m : D) : List (Str × D) := [("base", b), ("words", w), ("patches", p), ("many", m)]
section
variable {b w p m x : D}
theorem l4_b : lookD [("base", b), ("words", w), ("patches", p), ("many", m)] "base" = some b := by rw [lookD_cons, if_pos rfl]
theorem l4_w : lookD [("base", b), ("words", w), ("patches", p), ("many", m)] "words" = some w := by rw [lookD_cons, if_neg ne_bw, lookD_cons, if_pos rfl]
theorem l4_p : lookD [("base", b), ("words", w), ("patches", p), ("many", m)] "patches" = some p := by rw [lookD_cons, if_neg ne_bp, lookD_cons, if_neg ne_wp, lookD_cons, if_pos rfl]
theorem l4_m : lookD [("base", b), ("words", w), ("patches", p), ("many", m)] "many" = some m := by rw [lookD_cons, if_neg ne_bm, lookD_cons, if_neg ne_wm, lookD_cons, if_neg ne_pm, lookD_cons, if_pos rfl]
theorem p4_w : putD (l4 b w p m) "words" x = l4 b x p m := by
  unfold putD l4; rw [l4_w]; simp [ne_bw, ne_pw, ne_mw]
theorem p4_p : putD (l4 b w p m) "patches" x = l4 b w x m := by
  unfold putD l4; rw [l4_p]; simp [ne_bp, ne_wp, ne_mp]
theorem p4_m : putD (l4 b w p m) "many" x = l4 b w p x := by
  unfold putD l4; rw [l4_m]; simp [ne_bm, ne_wm, ne_pm]
theorem m4 : mergeD [] (l4 b w p m) = l4 b w p m := by
  unfold mergeD l4
  simp [putD, lookD, ne_bw, ne_bp, ne_bm, ne_wp, ne_wm, ne_pm]
end
def worldD (W : Wd) (pk : List (Str × D)) : D := .dct (wl W pk)
def noneD : D := .tup [.str "none"]
def clashD : D := .tup [.str "clash"]
def refD (x : Str) : D := .tup [.str "refused", .str x]
def fLinesW : FD := fun _ xs S P => ∃ N W pk m, xs = [.im (worldD W pk)] ∧ Held W pk ∧ Good N W ∧ N ≤ 100 ∧ run W.pat W.base (W.words.take W.many) = some m ∧ P (strsD m) S
def fSwapW : FD := fun _ xs S P => ∃ N W pk x, xs = [.im (worldD W pk), .im (.str x)] ∧ Held W pk ∧ Good N W ∧ N ≤ 100 ∧ (swapW W x = .no → P noneD S) ∧ (swapW W x = .ref → P (refD x) S) ∧ ∀ W', swapW W x = .ok W' → ∀ pk', Held W' pk' → P (worldD W' pk') S
theorem inD_words {x : Str} {ws : List Str} : inD (.str x) (ws.map D.str) = decide (x ∈ ws) := by
  unfold inD
  induction ws with
  | nil => simp
  | cons y r ih =>
    rw [List.map_cons, List.any_cons, ih, show same (.str y) (.str x) = decide (y = x) from same_of (by simp)]
    by_cases e : y = x
    · simp [e]
    · have : ¬ x = y := fun z => e z.symm
      simp [e, this]
/-- at == 0 or at >= many -/
theorem rd_edge2 {s t : FS} {En : AEnds} {a : Ab.A} {i n m : Nat} {g : FE} (ha : a.ρ[i]? = some (some (.im (.int (n : Nat))))) (hg : ∀ Q : D → Ab.A → Prop, Q (.int (m : Nat)) a → g En.ex a Q) (h1 : (n = 0 ∨ m ≤ n) → s En a) (h2 : ¬ (n = 0 ∨ m ≤ n) → t En a) :
    sIf (fOr (tB (fOp FEq (fVar i) (fC (.int 0)))) (tB (fOp FGe (fVar i) g))) s t En a := by
  unfold sIf fOr tB fOp fVar fC
  rw [ha]
  refine ⟨rfl, rfl, ?_⟩
  show if same (.int (n : Nat)) (.int 0) = true then _ else _
  rw [same_int]
  refine ite2 (fun c => ?_) (fun c => ?_)
  · dsimp only []
    rw [if_pos rfl]
    exact h1 (.inl (by simpa using c))
  · have c : ¬ (n : Int) = 0 := by simpa using c
    rw [ha]
    refine hg _ ?_
    show if decide (((m : Nat) : Int) ≤ (n : Int)) = true then _ else _
    by_cases d : m ≤ n
    · rw [decide_eq_true (by omega), if_pos rfl]; exact h1 (.inr d)
    · rw [decide_eq_false (by omega), if_neg Bool.false_ne_true]; exact h2 (by omega)
section
variable {P : Program} {w : World} {K : PySem.W.Frag} {mg : Str → Option Value} {base : Heap} {Z : Cl}
abbrev s_l_lines : Stmt := top 35
abbrev n_l_lines : List Str := ["world", "lines", "word"]
theorem sc_l_lines : FnScope n_l_lines ["world"] (defScope s_l_lines) := ⟨rfl, rfl, rfl, by decide +kernel, rfl, by decide +kernel, by decide +kernel⟩
theorem ok_l_lines {f : Addr} {fd : FuncData} (Fn : Fun K "_law_lines_with" "_law_lines_with" s_l_lines f fd) (D_law_apply : Dfn P w K mg base Z 1 "_law_apply" 2 fApply) : FnOk P w K mg base (L2.CX P w) 2 f fd ["world"] (spA Z 1 fLinesW) := by
  refine aok Fn sc_l_lines rfl fun cdv A outer s H E hr => ?_
  have hp := passes_of (X := cxOf (L2.CX P w) P w K mg base n_l_lines "_law_lines_with" (defScope s_l_lines) f cdv A outer s H E) rfl
  have tk := takes_of (X := cxOf (L2.CX P w) P w K mg base n_l_lines "_law_lines_with" (defScope s_l_lines) f cdv A outer s H E) rfl rfl rfl rfl
  have hu1 := hu2 hr
  refine ⟨_, (ss_cons (s_set 1 (aget hu1 (kv 0) qs) sc_l_lines.nd)
    (ss_cons (s_for hp rfl (i_l (asl (aget hu1 (kv 0) qs) ono (oso (aget hu1 (kv 0) qs)))) (g_nm 2 sc_l_lines.nd)
      (ss_one (s_set 1 (acl D_law_apply hr (by decide) tk (aa_cons (av 1) (aa_cons (aget hu1 (kof (aget hu1 (kv 0) qs)) (qv 2)) aa_nil)) (by rfl)) sc_l_lines.nd)))
    (ss_one (s_ret (av 1))))), fun EA xs S Q h hn => ?_⟩
  obtain ⟨N, W, pk, m, rfl, hh, G, hN, hm, hk⟩ := h
  refine ⟨strsD W.base, l4_b, ?_⟩
  dsimp only []
  refine seqI ?_
  refine ⟨.lst (W.words.map .str), l4_w, .int (W.many : Nat), l4_m, ?_⟩
  show forA _ _ (cutD (W.words.map .str) none (some (W.many : Int))) _ _
  rw [cutD_take, ← List.map_take]
  have gs := G.size
  refine forA_inv D.str (fun r a => ∃ (l : List Str) (r2 : Option AV), run W.pat l r = some m ∧ okL l ∧ l.length + pot W.pat r ≤ N ∧ a = ⟨[some (.im (worldD W pk)), some (.im (strsD l)), r2], S⟩) ?_ ?_ _ _ ⟨W.base, none, hm, G.okb, ?_, rfl⟩
  · rintro x r a N' ⟨l, r2, e1, e2, e3, rfl⟩ hN'
    obtain ⟨p, l', q1, q2, q3⟩ := run_cons e1
    have hp := G.pat x p q1
    rw [pot_cons, q1] at e3
    have e3 : l.length + (grow p + pot W.pat r) ≤ N := e3
    obtain ⟨b1, _⟩ := app_len (i := 0) (by simpa using hp.v) q2
    refine ⟨.dct pk, l4_p, paD p, hh.p.some q1, rfl, l, p, rfl, e2, hp.fine, hp.short (by omega) (by omega), fun z hz => ?_, fun z => ?_⟩
    · rw [putOn_app hp.v, q2] at hz; cases hz
      exact hN' _ ⟨l', _, q3, app_okL q2 e2 hp.o, by unfold grow at e3; omega, rfl⟩
    · rw [putOn_app hp.v, q2] at z; cases z
  · rintro a ⟨l, r2, e1, e2, e3, rfl⟩
    rw [run] at e1; cases e1
    exact hk
  · have := pot_take (f := W.pat) (a := W.words) (n := W.many)
    omega
abbrev s_l_swap : Stmt := top 36
abbrev n_l_swap : List Str := ["world", "word", "words", "at", "pair", "patches"]
theorem sc_l_swap : FnScope n_l_swap ["world", "word"] (defScope s_l_swap) := ⟨rfl, rfl, rfl, by decide +kernel, rfl, by decide +kernel, by decide +kernel⟩
theorem ok_l_swap {f : Addr} {fd : FuncData} (Fn : Fun K "_law_swap" "_law_swap" s_l_swap f fd) (Tb : Blt mg) (D_law_swapped : Dfn P w K mg base Z 2 "_law_swapped" 2 fSwapped) : FnOk P w K mg base (L2.CX P w) 3 f fd ["world", "word"] (spA Z 2 fSwapW) := by
  refine aok Fn sc_l_swap rfl fun cdv A outer s H E hr => ?_
  have tk := takes_of (X := cxOf (L2.CX P w) P w K mg base n_l_swap "_law_swap" (defScope s_l_swap) f cdv A outer s H E) rfl rfl rfl rfl
  have hu := hu64 hr
  have hu1 := hu2 hr
  refine ⟨_, (ss_cons (s_set 2 (aget hu1 (kv 0) qs) sc_l_swap.nd)
    (ss_cons (s_if (tcmp ao_ni (av 1) (av 2) (by rfl))
      (ss_one (s_ret (atup (aa_cons as aa_nil))))
      ss_nil)
    (ss_cons (s_set 3 (aidx (av 2) (av 1)) sc_l_swap.nd)
    (ss_cons (s_if (wor (tcmp (ao_eq hu) (av 3) ai (nomark _)) (wor1 (tcmp ao_ge (av 3) (aget hu1 (kv 0) qs) (nomark _)))).at
      (ss_one (s_ret (atup (aa_cons as aa_nil))))
      ss_nil)
    (ss_cons (s_set 4 (acl D_law_swapped hr (by decide) tk (aa_cons (aget hu1 (kof (aget hu1 (kv 0) qs)) (qix (qv 2) (qsub (qv 3) qi))) (aa_cons (aget hu1 (kof (aget hu1 (kv 0) qs)) (qv 1)) aa_nil)) (by rfl)) sc_l_swap.nd)
    (ss_cons (s_if (tcmp ao_isN (av 4) an (nomark _))
      (ss_one (s_ret (atup (aa_cons as (aa_cons (av 1) aa_nil)))))
      ss_nil)
    (ss_cons (s_own 5 (adict (kof (aget hu1 (kv 0) qs)) Tb.dict (by rfl)) sc_l_swap.nd)
    (ss_cons (s_putD 5 hu1 (qv 1) (aix (av 4) ai))
    (ss_cons (s_putD 5 hu1 (qix (qv 2) (qsub (qv 3) qi)) (aix (av 4) ai))
    (ss_one (s_ret (afrz 5 (adisp4 (aget hu1 (kv 0) qs) (ao ao_add (ao ao_add (asl (av 2) ono (oso (ao ao_sub (av 3) ai))) (anew (alst (aa_cons (av 1) (aa_cons (aix (av 2) (ao ao_sub (av 3) ai)) aa_nil))))) (asl (av 2) (oso (ao ao_add (av 3) ai)) ono)) (av 5) (aget hu1 (kv 0) qs)))))))))))))), fun EA xs S Q h hn => ?_⟩
  obtain ⟨N, W, pk, x, rfl, hh, G, hN, k3, k4, k5⟩ := h
  have z2 : 2 ≤ sizeLine := sz3
  have z1 : 1 ≤ sizeLine := sz3
  refine ⟨.lst (W.words.map .str), l4_w, ?_⟩
  dsimp only []
  refine seqI ?_
  refine ⟨rfl, flat_words, ?_⟩
  show (if (!inD (.str x) (W.words.map D.str)) = true then _ else _)
  rw [inD_words]
  by_cases hm : x ∈ W.words
  · rw [decide_eq_true hm]
    refine ⟨flat_words, rfl, idx x W.words, at_words hm, fun m h => no_words h, ?_⟩
    dsimp only []
    refine seqI ?_
    rcases swap_cases G x with ⟨e, c⟩ | ⟨A, o, B, f, s, h1, hsw⟩
    · refine rd_edge2 (n := idx x W.words) (m := W.many) rfl (fun Q hQ => ⟨_, l4_m, hQ⟩) (fun _ => ?_) (fun d => absurd c d)
      exact ⟨z1, k3 e⟩
    · have hi := h1.i
      have hm2 := h1.m
      have ato : atI (W.words.map D.str) ((idx x W.words : Nat) - 1 : Int) = some (.str o) := by
        rw [show ((idx x W.words : Nat) - 1 : Int) = (A.length : Nat) by omega, atI_nat (by rw [h1.w]; simp), h1.w]
        simp
      refine rd_edge2 (n := idx x W.words) (m := W.many) rfl (fun Q hQ => ⟨_, l4_m, hQ⟩) (fun d => by omega) (fun _ => ?_)
      refine ⟨.dct pk, l4_p, .str o, ato, paD f, hh.p.some h1.f, .dct pk, l4_p, paD s, hh.p.some h1.s, rfl, f, s, rfl, pat_len G hN h1.f, pat_len G hN h1.s, ?_⟩
      rcases hsw with ⟨t, e⟩ | ⟨t, e⟩
      · exact .inl ⟨t, z2, k4 e⟩
      · obtain ⟨t2, va, vb⟩ := h1.no2 G t
        have l1 := hh.l
        have l2 := many_len G hN
        have lw := congrArg List.length h1.w
        rw [List.length_append, List.length_cons, List.length_cons] at lw
        have l3 : (putD pk x (paD (ovL s (back f)))).length = pk.length := putD_same (by rw [hh.p.some h1.s]; rfl)
        have l4 : (putD (putD pk x (paD (ovL s (back f)))) o (paD (ovL f (ovL s (back f))))).length = pk.length := by
          rw [putD_same, l3]
          rw [lookD_put]
          split
          · rfl
          · rw [hh.p.some h1.f]; rfl
        obtain ⟨ep, eb⟩ := h1.cuts
        refine .inr ⟨t, t2, ?_⟩
        refine ⟨.dct pk, l4_p, paD (ovL s (back f)), rfl, by omega, ?_⟩
        dsimp only []
        refine ⟨paD (ovL f (ovL s (back f))), rfl, .str o, ato, by rw [l3]; omega, ?_⟩
        dsimp only []
        show sRet _ (endA EA Q) (Ab.A.mk [some (.im (worldD W pk)), some (.im (.str x)), some (.im (.lst (W.words.map .str))), some (.im (.int (idx x W.words : Nat))), some (.im (.tup [paD (ovL s (back f)), paD (ovL f (ovL s (back f)))])), some (.owd (putD (putD pk x (paD (ovL s (back f)))) o (paD (ovL f (ovL s (back f))))))] S)
        refine ⟨strsD W.base, l4_b, .str o, ato, z2, ?_, ?_, .int (W.many : Nat), l4_m, ?_⟩
        · show (cutD (W.words.map D.str) none (some ((idx x W.words : Nat) - 1 : Int))).length + 2 ≤ _
          rw [ep, List.length_map]; omega
        · show (cutD (W.words.map D.str) none (some ((idx x W.words : Nat) - 1 : Int)) ++ [D.str x, D.str o]).length + (cutD (W.words.map D.str) (some ((idx x W.words : Nat) + 1 : Int)) none).length ≤ _
          rw [ep, eb, List.length_append, List.length_map, List.length_map]; simp only [List.length_cons, List.length_nil]; omega
        · show Q (.dct (mergeD [] [("base", strsD W.base), ("words", .lst (cutD (W.words.map D.str) none (some ((idx x W.words : Nat) - 1 : Int)) ++ [D.str x, D.str o] ++ cutD (W.words.map D.str) (some ((idx x W.words : Nat) + 1 : Int)) none)), ("patches", .dct (putD (putD pk x (paD (ovL s (back f)))) o (paD (ovL f (ovL s (back f)))))), ("many", .int (W.many : Nat))])) S
          rw [m4, ep, eb]
          have := k5 _ e (putD (putD pk x (paD (ovL s (back f)))) o (paD (ovL f (ovL s (back f))))) ⟨(hh.p.set x _).set o _, by rw [l4]; show pk.length ≤ (A ++ [x, o] ++ B).length; simp; omega, nd_put (nd_put hh.n nd_pa) nd_pa⟩
          unfold worldD wl swapped at this
          simp only [List.map_append] at this
          exact this
  · rw [decide_eq_false hm]
    exact ⟨z1, k3 (no_of G hm).1⟩
end
end Ab


namespace Ab
open PySem L2
def fFloatW : FD := fun _ xs S P => ∃ N W pk x, xs = [.im (worldD W pk), .im (.str x)] ∧ Held W pk ∧ Good N W ∧ N ≤ 100 ∧ x ∈ W.words ∧ (floatW W.many W x = .ref → P (refD x) S) ∧ ∀ W', floatW W.many W x = .ok W' → ∀ pk', Held W' pk' → P (worldD W' pk') S
def fRebW : FD := fun _ xs S P => ∃ N M W pk p, xs = [.im (worldD W pk), .im (paD p)] ∧ Held W pk ∧ Good N W ∧ N ≤ 100 ∧ PatOk M p ∧ M ≤ 200 ∧ (app 0 W.base p = none → P clashD S) ∧
  ∀ b, app 0 W.base p = some b → (∀ x, carryW W.pat (W.words.take W.many) p W.pat = .inl x → P (refD x) S) ∧ ∀ g, carryW W.pat (W.words.take W.many) p W.pat = .inr g → ∀ pk', Held { W with base := b, pat := g } pk' → P (worldD { W with base := b, pat := g } pk') S
theorem rd_less2 {E : XA} {a : Ab.A} {P : Bool → Ab.A → Prop} {g h : FE} {n m : Nat} (hg : ∀ Q : D → Ab.A → Prop, Q (.int (n : Nat)) a → g E a Q) (hh : ∀ Q : D → Ab.A → Prop, Q (.int (m : Nat)) a → h E a Q) (h1 : n + 1 < m → P true a) (h2 : ¬ (n + 1 < m) → P false a) :
    tB (fOp FLt g (fOp FSub h (fC (.int 1)))) E a P := by
  unfold tB fOp
  refine hg _ (hh _ ?_)
  show P (decide ((n : Int) < (m : Nat) - 1)) a
  by_cases c : n + 1 < m
  · rw [decide_eq_true (by omega)]; exact h1 c
  · rw [decide_eq_false (by omega)]; exact h2 c
theorem rd_same2 {E : XA} {a : Ab.A} {P : Bool → Ab.A → Prop} {g h : FE} {n m : Nat} (hg : ∀ Q : D → Ab.A → Prop, Q (.int (n : Nat)) a → g E a Q) (hh : ∀ Q : D → Ab.A → Prop, Q (.int (m : Nat)) a → h E a Q) (h1 : n + 1 = m → P true a) (h2 : ¬ (n + 1 = m) → P false a) :
    tB (fOp FEq g (fOp FSub h (fC (.int 1)))) E a P := by
  unfold tB fOp
  refine hg _ (hh _ ?_)
  refine ⟨rfl, rfl, ?_⟩
  show P (same (.int (n : Nat)) (.int ((m : Nat) - 1))) a
  rw [same_int]
  by_cases c : n + 1 = m
  · rw [decide_eq_true (by omega)]; exact h1 c
  · rw [decide_eq_false (by omega)]; exact h2 c
section
variable {P : Program} {w : World} {K : PySem.W.Frag} {mg : Str → Option Value} {base : Heap} {Z : Cl}
abbrev s_l_float : Stmt := top 37
abbrev n_l_float : List Str := ["world", "word", "made", "other", "new"]
theorem sc_l_float : FnScope n_l_float ["world", "word"] (defScope s_l_float) := ⟨rfl, rfl, rfl, by decide +kernel, rfl, by decide +kernel, by decide +kernel⟩
theorem ok_l_float {f : Addr} {fd : FuncData} (Fn : Fun K "_law_float" "_law_float" s_l_float f fd) (Tb : Blt mg) (D_law_swap : Dfn P w K mg base Z 3 "_law_swap" 2 fSwapW) : FnOk P w K mg base (L2.CX P w) 4 f fd ["world", "word"] (spA Z 2 fFloatW) := by
  refine aok Fn sc_l_float rfl fun cdv A outer s H E hr => ?_
  have hp := passes_of (X := cxOf (L2.CX P w) P w K mg base n_l_float "_law_float" (defScope s_l_float) f cdv A outer s H E) rfl
  have tk := takes_of (X := cxOf (L2.CX P w) P w K mg base n_l_float "_law_float" (defScope s_l_float) f cdv A outer s H E) rfl rfl rfl rfl
  have hu := hu64 hr
  have hu1 := hu2 hr
  refine ⟨_, (ss_cons (s_set 2 (av 0) sc_l_float.nd)
    (ss_cons (s_while hp (tcmp ao_lt (aidx (aget hu1 (kv 2) qs) (av 1)) (ao ao_sub (aget hu1 (kv 2) qs) ai) (nomark _))
      (ss_cons (s_set 3 (aix (aget hu1 (kv 2) qs) (ao ao_add (aidx (aget hu1 (kv 2) qs) (av 1)) ai)) sc_l_float.nd)
      (ss_cons (s_set 4 (acl D_law_swap hr (by decide) tk (aa_cons (av 2) (aa_cons (av 3) aa_nil)) (by rfl)) sc_l_float.nd)
      (ss_cons (s_if (tval (aisi .tuple (av 4) Tb.isinstance Tb.tuple (by rfl) (by rfl) (by decide +kernel)))
        (ss_one (s_ret (atup (aa_cons as (aa_cons (av 1) aa_nil)))))
        ss_nil)
      (ss_one (s_set 2 (av 4) sc_l_float.nd))))))
    (ss_cons (s_if (tcmp (ao_eq hu) (aidx (aget hu1 (kv 2) qs) (av 1)) (ao ao_sub (aget hu1 (kv 2) qs) ai) (nomark _))
      (ss_one (s_set 2 (adisp4 (aget hu1 (kv 2) qs) (aget hu1 (kv 2) qs) (aget hu1 (kv 2) qs) (ao ao_sub (aget hu1 (kv 2) qs) ai)) sc_l_float.nd))
      ss_nil)
    (ss_one (s_ret (av 2)))))), fun EA xs S Q h hn => ?_⟩
  obtain ⟨N, W, pk, x, rfl, hh, G, hN, hm, k3, k4⟩ := h
  have z2 : 2 ≤ sizeLine := sz3
  refine ⟨fun m a => ∃ (W' : Wd) (pk' : List (Str × D)) (r3 r4 : Option AV), a = ⟨[some (.im (worldD W pk)), some (.im (.str x)), some (.im (worldD W' pk')), r3, r4], S⟩ ∧ Good N W' ∧ Held W' pk' ∧ x ∈ W'.words ∧ W'.many ≤ idx x W'.words + m ∧ floatW m W' x = floatW W.many W x, ⟨W.many, W, pk, none, none, rfl, G, hh, hm, by omega, rfl⟩, ?_⟩
  rintro m a ⟨W', pk', r3, r4, rfl, G', hh', hm', hmm, e3⟩
  have rw1 : ∀ Q2 : D → Ab.A → Prop, Q2 (.int (idx x W'.words : Nat)) ⟨[some (.im (worldD W pk)), some (.im (.str x)), some (.im (worldD W' pk')), r3, r4], S⟩ → fIdx (fGet (kVar 2) (qC (.str "words"))) (fVar 1) (endA EA Q).ex ⟨[some (.im (worldD W pk)), some (.im (.str x)), some (.im (worldD W' pk')), r3, r4], S⟩ Q2 := fun Q2 hQ => ⟨_, l4_w, flat_words, rfl, idx x W'.words, at_words hm', fun m h => no_words h, hQ⟩
  have rw2 : ∀ Q2 : D → Ab.A → Prop, Q2 (.int (W'.many : Nat)) ⟨[some (.im (worldD W pk)), some (.im (.str x)), some (.im (worldD W' pk')), r3, r4], S⟩ → fGet (kVar 2) (qC (.str "many")) (endA EA Q).ex ⟨[some (.im (worldD W pk)), some (.im (.str x)), some (.im (worldD W' pk')), r3, r4], S⟩ Q2 := fun Q2 hQ => ⟨_, l4_m, hQ⟩
  refine rd_less2 (n := idx x W'.words) (m := W'.many) rw1 rw2 (fun c => ?_) (fun c => ?_)
  · dsimp only []
    rw [if_pos rfl]
    obtain ⟨o, ho, hom, io, hst⟩ := float_step G' c
    obtain ⟨i, rfl⟩ := Nat.exists_eq_succ_of_ne_zero (show m ≠ 0 by omega)
    rw [Nat.succ_eq_add_one, floatW, if_pos c, ho] at e3
    simp only [] at e3
    refine ⟨.lst (W'.words.map .str), l4_w, .lst (W'.words.map .str), l4_w, flat_words, rfl, idx x W'.words, at_words hm', fun m h => no_words h, .str o, ?_, ?_⟩
    · show atI (W'.words.map D.str) ((idx x W'.words : Nat) + 1 : Int) = _
      rw [show ((idx x W'.words : Nat) + 1 : Int) = ((idx x W'.words + 1 : Nat) : Int) by omega]
      exact nth_words ho
    · have no : swapW W' o = .no → False := fun z => by
        rcases hst with e | ⟨W2, e, _⟩
        · rw [e] at z; cases z
        · rw [e] at z; cases z
      refine ⟨rfl, N, W', pk', o, rfl, hh', G', hN, fun z => (no z).elim, fun z => ?_, fun W2 z pk2 hh2 => ?_⟩
      · rw [z] at e3
        simp only [] at e3
        exact ⟨z2, k3 e3.symm⟩
      · rw [z] at e3
        simp only [] at e3
        rcases hst with e | ⟨W3, e, g1, g2, g3, g4, g5⟩
        · rw [e] at z; cases z
        · rw [e] at z; cases z
          exact ⟨i, by omega, W2, pk2, _, _, rfl, g1, hh2, (g5 x).mpr hm', by omega, e3⟩
  · dsimp only []
    rw [if_neg Bool.false_ne_true]
    have e6 : floatW W.many W x = .ok (floatEnd W' x) := by
      rw [← e3]
      cases m with
      | zero => rw [floatW]
      | succ m => rw [floatW, if_neg c]
    refine seqI ?_
    refine rd_same2 (n := idx x W'.words) (m := W'.many) rw1 rw2 (fun d => ?_) (fun d => ?_)
    · try dsimp only []
      rw [if_pos rfl]
      have e7 : floatEnd W' x = { W' with many := W'.many - 1 } := by unfold floatEnd; rw [if_pos d]
      rw [e7] at e6
      have := k4 _ e6 pk' ⟨hh'.p, hh'.l, hh'.n⟩
      refine ⟨strsD W'.base, l4_b, .lst (W'.words.map .str), l4_w, .dct pk', l4_p, .int (W'.many : Nat), l4_m, ?_⟩
      show Q (.dct (mergeD [] (l4 (strsD W'.base) (.lst (W'.words.map .str)) (.dct pk') (.int ((W'.many : Nat) - 1))))) S
      rw [m4, show ((W'.many : Nat) - 1 : Int) = ((W'.many - 1 : Nat) : Int) by omega]
      exact this
    · try dsimp only []
      rw [if_neg Bool.false_ne_true]
      have e7 : floatEnd W' x = W' := by unfold floatEnd; rw [if_neg d]
      rw [e7] at e6
      exact k4 _ e6 pk' hh'
abbrev s_l_rebase : Stmt := top 38
abbrev n_l_rebase : List Str := ["world", "patch", "base", "over", "patches", "word", "new"]
theorem sc_l_rebase : FnScope n_l_rebase ["world", "patch"] (defScope s_l_rebase) := ⟨rfl, rfl, rfl, by decide +kernel, rfl, by decide +kernel, by decide +kernel⟩
theorem ok_l_rebase {f : Addr} {fd : FuncData} (Fn : Fun K "_law_rebase" "_law_rebase" s_l_rebase f fd) (Tb : Blt mg) (D_law_apply : Dfn P w K mg base Z 1 "_law_apply" 2 fApply) (D_law_over : Dfn P w K mg base Z 1 "_law_over" 2 fOver) : FnOk P w K mg base (L2.CX P w) 2 f fd ["world", "patch"] (spA Z 2 fRebW) := by
  refine aok Fn sc_l_rebase rfl fun cdv A outer s H E hr => ?_
  have hp := passes_of (X := cxOf (L2.CX P w) P w K mg base n_l_rebase "_law_rebase" (defScope s_l_rebase) f cdv A outer s H E) rfl
  have tk := takes_of (X := cxOf (L2.CX P w) P w K mg base n_l_rebase "_law_rebase" (defScope s_l_rebase) f cdv A outer s H E) rfl rfl rfl rfl
  have hu1 := hu2 hr
  refine ⟨_, (ss_cons (s_set 2 (acl D_law_apply hr (by decide) tk (aa_cons (aget hu1 (kv 0) qs) (aa_cons (av 1) aa_nil)) (by rfl)) sc_l_rebase.nd)
    (ss_cons (s_if (tcmp ao_isN (av 2) an (nomark _))
      (ss_one (s_ret (atup (aa_cons as aa_nil))))
      ss_nil)
    (ss_cons (s_set 3 (av 1) sc_l_rebase.nd)
    (ss_cons (s_own 4 (adict (kof (aget hu1 (kv 0) qs)) Tb.dict (by rfl)) sc_l_rebase.nd)
    (ss_cons (s_for hp rfl (i_l (asl (aget hu1 (kv 0) qs) ono (oso (aget hu1 (kv 0) qs)))) (g_nm 5 sc_l_rebase.nd)
      (ss_cons (s_set 6 (acl D_law_over hr (by decide) tk (aa_cons (aget hu1 (kv 4) (qv 5)) (aa_cons (av 3) aa_nil)) (by rfl)) sc_l_rebase.nd)
      (ss_cons (s_if (tcmp ao_isN (av 6) an (nomark _))
        (ss_one (s_ret (atup (aa_cons as (aa_cons (av 5) aa_nil)))))
        ss_nil)
      (ss_cons (s_set 3 (acl D_law_over hr (by decide) tk (aa_cons (av 3) (aa_cons (aget hu1 (kof (aget hu1 (kv 0) qs)) (qv 5)) aa_nil)) (by rfl)) sc_l_rebase.nd)
      (ss_one (s_putD 4 hu1 (qv 5) (av 6)))))))
    (ss_one (s_ret (afrz 4 (adisp4 (av 2) (aget hu1 (kv 0) qs) (av 4) (aget hu1 (kv 0) qs)))))))))), fun EA xs S Q h hn => ?_⟩
  obtain ⟨N, M, W, pk, p, rfl, hh, G, hN, hp, hM, k1, k2⟩ := h
  have z2 : 2 ≤ sizeLine := sz3
  have z1 : 1 ≤ sizeLine := sz3
  have lb : W.base.length ≤ 100 := by have := G.size; omega
  have lw := many_len G hN
  refine ⟨strsD W.base, l4_b, rfl, W.base, p, rfl, G.okb, hp.fine, hp.short hM (by omega), fun b hb => ?_, fun e => ?_⟩
  · rw [putOn_app hp.v] at hb
    obtain ⟨k3, k4⟩ := k2 b hb
    dsimp only []
    show sSeq (sIf (tB (fOp FIsN (fVar 2) (fC D.non))) _ sNx) _ (endA EA Q) (Ab.A.mk [some (.im (worldD W pk)), some (.im (paD p)), some (.im (strsD b)), none, none, none, none] S)
    refine ⟨.dct pk, l4_p, ?_⟩
    dsimp only []
    refine seqI ?_
    refine ⟨.lst (W.words.map .str), l4_w, .int (W.many : Nat), l4_m, ?_⟩
    show forA _ _ (cutD (W.words.map .str) none (some (W.many : Int))) _ _
    rw [cutD_take, ← List.map_take]
    refine forA_inv D.str (fun r a => ∃ (ov : List Hk) (g : Str → Option (List Hk)) (km : List (Str × D)) (r5 r6 : Option AV), carryW W.pat r ov g = carryW W.pat (W.words.take W.many) p W.pat ∧ valid (-1) ov = true ∧ ov.length = p.length ∧ Pats km g ∧ km.length = pk.length ∧ (∀ e ∈ km, nd e.2 = true) ∧ (∀ y ∈ r, g y = W.pat y) ∧ (∀ y ∈ r, y ∈ W.words) ∧ r.Nodup ∧ a = ⟨[some (.im (worldD W pk)), some (.im (paD p)), some (.im (strsD b)), some (.im (paD ov)), some (.owd km), r5, r6], S⟩) ?_ ?_ _ _ ⟨p, W.pat, pk, none, none, rfl, hp.v, rfl, hh.p, rfl, hh.n, fun y hy => rfl, fun y hy => List.mem_of_mem_take hy, G.nd.sublist (List.take_sublist _ _), rfl⟩
    · rintro x r a N' ⟨ov, g, km, r5, r6, e1, e2, e3, e4, e5, e6, e7, e8, e9, rfl⟩ hN'
      obtain ⟨n1, n2⟩ := List.nodup_cons.mp e9
      obtain ⟨q, hq⟩ := G.at (e8 x List.mem_cons_self)
      have pq := G.pat x q hq
      have lo : ov.length < sizeLine := by have := hp.l; rw [sizeLine_eq]; omega
      have gx : g x = some q := by rw [e7 x List.mem_cons_self, hq]
      rw [carryW, hq] at e1
      simp only [] at e1
      refine ⟨paD q, e4.some gx, rfl, q, ov, rfl, pat_len G hN hq, fun t => ?_, fun t => ?_⟩
      · rw [if_pos t] at e1
        exact ⟨z2, k3 x e1.symm⟩
      · rw [if_neg (by rw [t]; exact Bool.false_ne_true)] at e1
        refine ⟨.dct pk, l4_p, paD q, hh.p.some hq, rfl, ov, q, rfl, lo, fun t2 => (by rw [touchB_comm t] at t2; cases t2), fun t2 => ?_⟩
        have hs : (lookD km x).isSome = true := by rw [e4, gx]; rfl
        refine ⟨by have := hh.l; omega, hN' _ ⟨ovL ov q, setP g x (ovL q ov), putD km x (paD (ovL q ov)), _, _, e1, valid_carried e2 pq.v (touchB_comm t), by rw [ovL_sum.1]; exact e3, e4.set x _, by rw [putD_same hs]; exact e5, nd_put e6 nd_pa, fun y hy => ?_, fun y hy => e8 y (List.mem_cons_of_mem _ hy), n2, rfl⟩⟩
        rw [setP_ne (fun z => n1 (by rw [← z]; exact hy))]
        exact e7 y (List.mem_cons_of_mem _ hy)
    · rintro a ⟨ov, g, km, r5, r6, e1, e2, e3, e4, e5, e6, e7, e8, e9, rfl⟩
      rw [carryW] at e1
      have := k4 g e1.symm km ⟨e4, by rw [e5]; exact hh.l, e6⟩
      refine ⟨.lst (W.words.map .str), l4_w, .int (W.many : Nat), l4_m, ?_⟩
      show Q (.dct (mergeD [] (l4 (strsD b) (.lst (W.words.map .str)) (.dct km) (.int (W.many : Nat))))) S
      rw [m4]
      exact this
  · rw [putOn_app hp.v] at e
    exact ⟨z1, k1 e⟩
end
end Ab


namespace Ab
open PySem L2
section
variable {X : Cx} {Z : Cl} {W : WX} {e e1 e2 : Expr} {f : FE} {fn : FN} {u : FQ} {t : FS} {rest : List Stmt} {pos pos' pos2 p2 p3 p4 p5 p6 p7 p8 : Pos} {i j1 j2 : Nat} {x : Str}
theorem valV_same : ∀ {ws : List (Key × V)} {k : Key} {v : V}, valV (putK ws k v) k = some v := fun {ws k v} => by
  rw [valV_put]; simp
/-- d["patches"] = {..}; d["patches"][k] = e -/
def sNest (i : Nat) (fn : FN) (u : FQ) (f : FE) : FS := fun En a => fn En.ex a fun n a1 => match n, a1.ρ[i]? with
  | .owd kk, some (some (.owd ks)) => ks.length < sizeLine ∧ f E0A (A.hide ⟨(a1.off i).ρ, a1.S⟩) fun d a2 => u ⟨(a1.off i).ρ, a2.S⟩ fun y => match y with
    | .str k => kk.length < sizeLine ∧ En.nx ⟨a1.ρ.set i (some (.owd (putD ks "patches" (.dct (putD kk k d))))), a2.S⟩
    | _ => False
  | _, _ => False
theorem s_nest (i : Nat) (hu : X.A.units + 1 < cLine) (nw : AN X Z W e1 fn) (a : AE X Z W e f) (b : AQ X Z e2 u) (c : ASs X Z W rest t) (hN : X.N[i]? = some x := by rfl) (hv : Vis X.env.scope x := by first | exact Or.inl rfl | exact Or.inr (Or.inl rfl) | exact Or.inr (Or.inr rfl)) (hd : (x == ("__debug__" : Str)) = false := by decide) (hcd : (x == ("__classdict__" : Str)) = false := by decide)
    (hs1 : swapsWith e1 (some (.Subscript (.Name x p2) (.Constant (.str "patches") j1 p3) p4)) pos.line X.env = pure false := by rfl) (hsl : NoSl (.Constant (.str "patches") j2 p6) := by intro _ _; rfl)
    (hs2 : swapsWith e (some (.Subscript (.Subscript (.Name x p5) (.Constant (.str "patches") j2 p6) p7) e2 p8)) pos2.line X.env = pure false := by rfl) :
    ASs X Z W (.Assign [.Subscript (.Name x p2) (.Constant (.str "patches") j1 p3) p4] e1 pos :: .Assign [.Subscript (.Subscript (.Name x p5) (.Constant (.str "patches") j2 p6) p7) e2 p8] e pos2 :: rest) (sSeq (sNest i fn u f) t) := by
  obtain ⟨tn, pn, sn⟩ := nw.ex
  obtain ⟨ta, pa, sa⟩ := a.ex
  obtain ⟨tb, pb, sb⟩ := b.ex
  obtain ⟨tc, pc, sc⟩ := c.ex
  refine ⟨_, pss_cons (ps_dput hu (pe_var hN hv hd hcd) pe_str pn hs1) (pss_cons (ps_dput hu (pe_dget hu (pe_var hN hv hd hcd) pe_str hsl) pb pa hs2) pc), fun B σ H G a Dn En r w k h => ?_⟩
  refine sn B σ H G a _ _ _ r w h fun n a1 p o H1 G1 q1 e1 r1 hp hn => ?_
  split at q1
  · rename_i kk ks hi
    obtain ⟨hz, q1⟩ := q1
    obtain ⟨v2, k1, m, vs, rfl, m1, m2, m3, m4, m5⟩ := r1.sl i _ hi
    cases o with
    | dK us =>
      have hn : Rk G1 kk us := hn
      have hmp : m ≠ p := fun e => by rw [e, hp] at m1; cases m1
      refine ⟨_, k1, m, _, rfl, DPut.k (k := Sum.inr "patches") (by rw [upd_ne hmp]; exact m1) (by rw [← m4.len]; exact hz), ?_⟩
      -- the slot is hidden; both things are loose
      have r2 := (r1.unknown (o := .dK us) hp).offs1 k1
      have lp := r1.loose (o := .dK us) hp
      have noS : ∀ (j : Nat) (y : AV), (a1.off i).ρ[j]? = some (some y) → y.owned = true → j ≠ i ∧ a1.ρ[j]? = some (some y) := fun j y hj hy => by
        have hj : (a1.ρ.set i none)[j]? = some (some y) := hj
        rw [List.getElem?_set] at hj
        by_cases e : i = j
        · rw [if_pos e] at hj; split at hj <;> cases hj
        · rw [if_neg e] at hj; exact ⟨fun z => e z.symm, hj⟩
      have lp2 : Loose B σ (upd H1 p (.dK us)) G1 (a1.off i).ρ p (.dK us) := ⟨lp.h, lp.g, lp.b, fun j y hj hy => lp.s j y (noS j y hj hy).2 hy, lp.q⟩
      have pdq : ∀ q z, B.q = some q → PdOf (upd H1 p (.dK us)) q z → PdOf H1 q z := fun q z hq kk => by
        obtain ⟨C, dx, fs, k1, k2⟩ := kk
        rw [upd_ne (fun e => r1.qh q hq (by rw [e]; exact hp))] at k1
        exact ⟨C, dx, fs, k1, k2⟩
      have lm2 : Loose B σ (upd H1 p (.dK us)) G1 (a1.off i).ρ m (.dK vs) := ⟨by rw [upd_ne hmp]; exact m1, m2, m3, fun j y hj hy hz => by
        obtain ⟨n1, n2⟩ := noS j y hj hy
        exact r1.dis i j m _ y (fun e => n1 e.symm) hi rfl n2 hy k1 hz, fun q hq z => m5 q hq (pdq q m hq z)⟩
      obtain ⟨r3, lm3⟩ := r2.bump (o' := .dK (putK vs (Sum.inr "patches") (.ref p))) lm2
      have pdq2 : ∀ q z, B.q = some q → PdOf (upd (upd H1 p (.dK us)) m (.dK (putK vs (Sum.inr "patches") (.ref p)))) q z → PdOf (upd H1 p (.dK us)) q z := fun q z hq kk => by
        obtain ⟨C, dx, fs, k1, k2⟩ := kk
        rw [upd_ne (fun e => r1.qn q hq (by rw [e]; exact m3))] at k1
        exact ⟨C, dx, fs, k1, k2⟩
      have lp3 : Loose B σ (upd (upd H1 p (.dK us)) m (.dK (putK vs (Sum.inr "patches") (.ref p)))) G1 (a1.off i).ρ p (.dK us) := ⟨by rw [upd_ne hmp.symm]; exact lp2.h, lp2.g, lp2.b, lp2.s, fun q hq z => lp2.q q hq (pdq2 q p hq z)⟩
      obtain ⟨pd, hpd⟩ := r3.pd
      refine sa _ σ _ G1 _ _ _ E0A (r3.sub hpd) wok00 q1 fun d a2 v H3 G3 q3 e3 r4 x3 => ?_
      have r5 := r3.after hpd r4.toRelS
      have lm5 := Loose.after r3 hpd lm3 r4.toRelS
      have lp5 := Loose.after r3 hpd lp3 r4.toRelS
      refine ⟨_, k1, m, .ref p, rfl, by rw [← valV_same (ws := vs) (k := Sum.inr "patches") (v := .ref p)]; exact DGet.k (k := Sum.inr "patches") lm5.h, ?_⟩
      refine sb B σ H3 G3 _ _ _ r5 q3 fun y z q4 y1 => ?_
      cases y with
      | str s =>
        obtain ⟨q5, q6⟩ := q4
        cases y1
        refine ⟨p, _, rfl, DPut.k (k := Sum.inr s) lp5.h (by rw [← hn.len]; exact q5), ?_⟩
        obtain ⟨r6, lp6⟩ := r5.bump (o' := .dK (putK us (Sum.inr s) v)) lp5
        have pdq3 : ∀ q z, B.q = some q → PdOf (upd H3 p (.dK (putK us (Sum.inr s) v))) q z → PdOf H3 q z := fun q z hq kk => by
          obtain ⟨C, dx, fs, k1, k2⟩ := kk
          rw [upd_ne (fun e => r1.qn q hq (by rw [e]; exact lp5.b))] at k1
          exact ⟨C, dx, fs, k1, k2⟩
        have r7 := r6.give lp6
        have eg : Ex G3 (upd G3 p (.dK (putK us (Sum.inr s) v))) := Ex.new lp5.g
        have rp : R (upd G3 p (.dK (putK us (Sum.inr s) v))) (.dct (putD kk s d)) (.ref p) := ⟨p, _, rfl, upd_same, ((hn.mono e3).put x3).mono eg⟩
        have rk := ((m4.mono e3).mono eg).put (k := "patches") rp
        have r8 := r7.set (i := i) (x := .owd (putD ks "patches" (.dct (putD kk s d)))) (v := .ref m) ⟨m, _, rfl, by rw [upd_ne hmp]; exact lm5.h, by rw [upd_ne hmp]; exact lm5.g, m3, rk, fun q hq z => lm5.q q hq (pdq3 q m hq z)⟩ (fun _ j p' y hne hj hy e hz => by cases e; exact lm5.s j y hj hy hz)
        rw [set_self k1] at r8
        have ea : (A.put ⟨(a1.off i).ρ, a2.S⟩ i (.owd (putD ks "patches" (.dct (putD kk s d))))) = (⟨a1.ρ.set i (some (.owd (putD ks "patches" (.dct (putD kk s d))))), a2.S⟩ : A) := by
          show A.mk ((a1.ρ.set i none).set i _) a2.S = _
          rw [List.set_set]
        rw [ea] at r8
        exact sc B σ _ _ _ Dn En r8 w k q6
      | _ => exact q4.elim
    | _ => exact hn.elim
  · exact q1.elim
end
end Ab


namespace Ab
open PySem L2
/-! ### a deed, plainly -/
inductive Due where
  | tup (d : D)
  | ok (W : Wd)
def linesW (W : Wd) : List Str := (run W.pat W.base (W.words.take W.many)).getD []
open Classical in
noncomputable def dueW (W : Wd) (kind x : Str) (p : List Hk) : Due :=
  if kind = "pop" then (if W.many = 0 then .tup noneD else .ok { W with many := W.many - 1 })
  else if kind = "push" then (if W.many = W.words.length then .tup noneD else match (W.words[W.many]?).bind W.pat with
    | some q => match app 0 (linesW W) q with
      | some _ => .ok { W with many := W.many + 1 }
      | none => .tup clashD
    | none => .tup noneD)
  else if kind = "rebase" then (match app 0 W.base p with
    | none => .tup clashD
    | some b => match carryW W.pat (W.words.take W.many) p W.pat with
      | .inl y => .tup (refD y)
      | .inr g => .ok { W with base := b, pat := g })
  else if kind = "add" then (if x ∈ W.words then .tup (refD x) else match app 0 (linesW W) p with
    | some _ => .ok (addW W x p)
    | none => .tup clashD)
  else if x ∉ W.words then .tup noneD
  else if kind = "swap" then (match swapW W x with
    | .no => .tup noneD
    | .ref => .tup (refD x)
    | .ok W' => .ok W')
  else if kind = "float" then (match floatW W.many W x with
    | .ok W' => .ok W'
    | _ => .tup (refD x))
  else if kind = "sink" then .ok (sinkW (idx x W.words) W x).1
  else match foldW W x with
    | some W' => .ok W'
    | none => .tup noneD
theorem linesW_eq {W : Wd} {m : List Str} (h : run W.pat W.base (W.words.take W.many) = some m) : linesW W = m := by unfold linesW; rw [h]; rfl
theorem due_good {N : Nat} {W W' : Wd} {kind x : Str} {p : List Hk} (G : Good N W) (hp : PatOk (N + 4) p) (hg : grow p ≤ 4) (wx : WordOk x) (h : dueW W kind x p = .ok W') : Good (N + 4) W' := by
  have up : ∀ {V : Wd}, Good N V → Good (N + 4) V := fun g => g.up (by omega)
  unfold dueW at h
  split at h
  · split at h
    · cases h
    · rename_i c
      cases h
      exact up (pop_good (n := W.many - 1) G (by omega))
  · split at h
    · split at h
      · cases h
      · split at h
        · rename_i q hq
          split at h
          · rename_i n hn
            cases h
            cases hx : W.words[W.many]? with
            | none => rw [hx] at hq; cases hq
            | some y =>
              rw [hx] at hq
              obtain ⟨m, hm⟩ := G.lin
              rw [linesW_eq hm] at hn
              exact up (push_good G hx hq hm hn)
          · cases h
        · cases h
    · split at h
      · split at h
        · cases h
        · rename_i b hb
          split at h
          · cases h
          · rename_i g hg2
            cases h
            exact reb_good G hp hb hg2 (by omega)
      · split at h
        · split at h
          · cases h
          · rename_i hx
            split at h
            · rename_i n hn
              cases h
              obtain ⟨m, hm⟩ := G.lin
              rw [linesW_eq hm] at hn
              exact add_good G hx wx hp hm hn (by omega) (by omega)
            · cases h
        · split at h
          · cases h
          · split at h
            · split at h
              · cases h
              · cases h
              · rename_i e
                cases h
                exact up (swap_ok G e).1
            · split at h
              · split at h
                · rename_i e
                  cases h
                  exact up (float_ok G e).1
                · cases h
              · split at h
                · cases h
                  exact up (sink_ok G).1
                · split at h
                  · rename_i e
                    cases h
                    rcases fold_cases G x with ⟨e2, _⟩ | ⟨A, o, B, f, s, h1, e2⟩
                    · rw [e2] at e; cases e
                    · rw [e2] at e; cases e
                      exact up (fold_good G h1)
                  · cases h
def deedD (kind x : Str) (p : List Hk) : D := .tup [.str kind, .str x, paD p]
def kinds : List Str := ["add", "pop", "push", "swap", "float", "sink", "fold", "rebase"]
theorem kinds_ok {k : Str} (h : k ∈ kinds) : PyData.strOk k = true := by
  have : ∀ k ∈ kinds, PyData.strOk k = true := by decide +kernel
  exact this k h
theorem rd_own {En : AEnds} {a : Ab.A} {i j : Nat} {ks : List (Str × D)} (ha : a.ρ[j]? = some (some (.im (.dct ks)))) (h : En.nx (a.put i (.owd ks))) : sOwn i (nDict (kVar j)) En a := by
  unfold sOwn nDict kVar
  rw [ha]
  exact h
theorem nxI {En : AEnds} {a : Ab.A} (h : En.nx a) : sNx En a := h
/-- a dict of pairs: what it tells -/
theorem merge_look {f : Str → Option D} : ∀ {L acc : List (Str × D)}, (∀ e ∈ L, f e.1 = some e.2) → ∀ y, lookD (mergeD acc L) y = if y ∈ L.map (·.1) then f y else lookD acc y
  | [], acc, _, y => by simp [mergeD]
  | (k, d) :: r, acc, h, y => by
    show lookD (mergeD (putD acc k d) r) y = _
    rw [merge_look (fun e he => h e (List.mem_cons_of_mem _ he)), lookD_put]
    have hk := h (k, d) List.mem_cons_self
    have hk : f k = some d := hk
    by_cases e1 : y ∈ r.map (·.1)
    · rw [if_pos e1, if_pos (by rw [List.map_cons]; exact List.mem_cons_of_mem _ e1)]
    · rw [if_neg e1]
      by_cases e2 : y = k
      · rw [if_pos e2, if_pos (by rw [e2, List.map_cons]; exact List.mem_cons_self), e2, hk]
      · rw [if_neg e2, if_neg]
        rw [List.map_cons, List.mem_cons]
        exact fun z => z.elim e2 e1
theorem merge_len : ∀ {L acc : List (Str × D)}, (mergeD acc L).length ≤ acc.length + L.length
  | [], acc => by simp [mergeD]
  | (k, d) :: r, acc => by
    show (mergeD (putD acc k d) r).length ≤ _
    have := merge_len (L := r) (acc := putD acc k d)
    have := putD_len (ks := acc) (k := k) (d := d)
    rw [List.length_cons]; omega
theorem merge_nd : ∀ {L acc : List (Str × D)}, (∀ e ∈ acc, nd e.2 = true) → (∀ e ∈ L, nd e.2 = true) → ∀ e ∈ mergeD acc L, nd e.2 = true
  | [], acc, h, _ => h
  | (k, d) :: r, acc, h, h2 => merge_nd (L := r) (acc := putD acc k d) (nd_put h (h2 (k, d) List.mem_cons_self)) fun e he => h2 e (List.mem_cons_of_mem _ he)
/-- the dict of these words' patches -/
theorem dict_of {g : Str → Option (List Hk)} {L : List (Str × D)} (h : ∀ e ∈ L, (g e.1).map paD = some e.2) (hg : ∀ y, y ∉ L.map (·.1) → g y = none) : Pats (mergeD [] L) g ∧ (mergeD [] L).length ≤ L.length ∧ ∀ e ∈ mergeD [] L, nd e.2 = true := by
  refine ⟨fun y => ?_, by have := merge_len (L := L) (acc := []); simpa using this, merge_nd (fun _ h => (nomatch h)) fun e he => ?_⟩
  · rw [merge_look (f := fun y => (g y).map paD) h]
    by_cases e : y ∈ L.map (·.1)
    · rw [if_pos e]
    · rw [if_neg e, hg y e]; rfl
  · have := h e he
    cases q : g e.1 with
    | none => rw [q] at this; cases this
    | some p => rw [q] at this; rw [← Option.some.inj this]; exact nd_pa
theorem at0 {α : Type} {x : α} {r : List α} : atI (x :: r) 0 = some x := by
  unfold atI ixN
  rw [if_pos (Int.le_refl 0), if_pos (by rw [List.length_cons]; omega)]
  rfl
theorem at2 {α : Type} {x y z : α} {r : List α} : atI (x :: y :: z :: r) 2 = some z := by
  unfold atI ixN
  rw [if_pos (by omega), if_pos (by rw [List.length_cons, List.length_cons, List.length_cons]; omega)]
  rfl
theorem at1 {α : Type} {x y : α} {r : List α} : atI (x :: y :: r) 1 = some y := by
  unfold atI ixN
  rw [if_pos (by omega), if_pos (by rw [List.length_cons, List.length_cons]; omega)]
  rfl
/-- deed[0] == c -/
theorem rd_kind {s t : FS} {En : AEnds} {a : Ab.A} {i : Nat} {kind c : Str} {rest : List D} (ha : a.ρ[i]? = some (some (.im (.tup (.str kind :: rest))))) (hk : PyData.strOk kind = true) (hc : PyData.strOk c = true) (h1 : kind = c → s En a) (h2 : ¬ kind = c → t En a) :
    sIf (tB (fOp FEq (fIx (fVar i) (fC (.int 0))) (fC (.str c)))) s t En a := by
  unfold sIf tB fOp fIx fVar fC
  rw [ha]
  refine ⟨.str kind, at0, hk, hc, ?_⟩
  show if same (.str kind) (.str c) = true then _ else _
  rw [show same (.str kind) (.str c) = decide (kind = c) from same_of (by simp)]
  by_cases e : kind = c
  · rw [decide_eq_true e, if_pos rfl]; exact h1 e
  · rw [decide_eq_false e, if_neg Bool.false_ne_true]; exact h2 e
end Ab


namespace Ab
open PySem L2
def fDue : FD := fun _ xs S P => ∃ N W pk kind x p, xs = [.im (worldD W pk), .im (deedD kind x p)] ∧ Held W pk ∧ Good N W ∧ N ≤ 90 ∧ kind ∈ kinds ∧ WordOk x ∧ PatOk (N + 4) p ∧ grow p ≤ 4 ∧ (∀ d, dueW W kind x p = .tup d → P d S) ∧ ∀ W', dueW W kind x p = .ok W' → ∀ pk', Held W' pk' → P (worldD W' pk') S
section
variable {P : Program} {w : World} {K : PySem.W.Frag} {mg : Str → Option Value} {base : Heap} {Z : Cl}
abbrev s_l_due : Stmt := top 39
abbrev n_l_due : List Str := ["world", "deed", "words", "many", "word", "made", "one", "at"]
theorem sc_l_due : FnScope n_l_due ["world", "deed"] (defScope s_l_due) := ⟨rfl, rfl, rfl, by decide +kernel, rfl, by decide +kernel, by decide +kernel⟩
theorem ok_l_due {f : Addr} {fd : FuncData} (Fn : Fun K "_law_due" "_law_due" s_l_due f fd) (Tb : Blt mg) (D_law_apply : Dfn P w K mg base Z 1 "_law_apply" 2 fApply) (D_law_lines_with : Dfn P w K mg base Z 3 "_law_lines_with" 1 fLinesW) (D_law_rebase : Dfn P w K mg base Z 3 "_law_rebase" 2 fRebW) (D_law_swap : Dfn P w K mg base Z 4 "_law_swap" 2 fSwapW) (D_law_float : Dfn P w K mg base Z 4 "_law_float" 2 fFloatW) (D_joined : Dfn P w K mg base Z 3 "joined" 2 fJoined) : FnOk P w K mg base (L2.CX P w) 5 f fd ["world", "deed"] (spA Z 2 fDue) := by
  refine aok Fn sc_l_due rfl fun cdv A outer s H E hr => ?_
  have hp := passes_of (X := cxOf (L2.CX P w) P w K mg base n_l_due "_law_due" (defScope s_l_due) f cdv A outer s H E) rfl
  have tk := takes_of (X := cxOf (L2.CX P w) P w K mg base n_l_due "_law_due" (defScope s_l_due) f cdv A outer s H E) rfl rfl rfl rfl
  have hu := hu64 hr
  have hu1 := hu2 hr
  refine ⟨_, (ss_cons (s_set 2 (aget hu1 (kv 0) qs) sc_l_due.nd)
    (ss_cons (s_set 3 (aget hu1 (kv 0) qs) sc_l_due.nd)
    (ss_cons (s_set 4 (aix (av 1) ai) sc_l_due.nd)
    (ss_cons (s_own 5 (adict (kv 0) Tb.dict (by rfl)) sc_l_due.nd)
    (ss_cons (s_if (tcmp (ao_eq hu) (aix (av 1) ai) as (nomark _))
      (ss_cons (s_putD 5 hu1 qs (ao ao_sub (av 3) ai))
      (ss_one (s_ret (aif (tcmp (ao_eq hu) (av 3) ai (nomark _)) (atup (aa_cons as aa_nil)) (av 5)))))
      ss_nil)
    (ss_cons (s_if (tcmp (ao_eq hu) (aix (av 1) ai) as (nomark _))
      (ss_cons (s_putD 5 hu1 qs (ao ao_add (av 3) ai))
      (ss_cons (s_if (tcmp (ao_eq hu) (av 3) (alen (av 2) Tb.len (by rfl)) (nomark _))
        (ss_one (s_ret (atup (aa_cons as aa_nil))))
        ss_nil)
      (ss_one (s_ret (aif (tcmp ao_isN (acl D_law_apply hr (by decide) tk (aa_cons (acl D_law_lines_with hr (by decide) tk (aa_cons (av 0) aa_nil) (by rfl)) (aa_cons (aget hu1 (kof (aget hu1 (kv 0) qs)) (qix (qv 2) (qv 3))) aa_nil)) (by rfl)) an (nomark _)) (atup (aa_cons as aa_nil)) (av 5))))))
      ss_nil)
    (ss_cons (s_if (tcmp (ao_eq hu) (aix (av 1) ai) as (nomark _))
      (ss_one (s_ret (acl D_law_rebase hr (by decide) tk (aa_cons (av 0) (aa_cons (aix (av 1) ai) aa_nil)) (by rfl))))
      ss_nil)
    (ss_cons (s_if (tcmp (ao_eq hu) (aix (av 1) ai) as (nomark _))
      (ss_cons (s_if (tcmp ao_in (av 4) (av 2) (by rfl))
        (ss_one (s_ret (atup (aa_cons as (aa_cons (av 4) aa_nil)))))
        ss_nil)
      (ss_cons (s_if (tcmp ao_isN (acl D_law_apply hr (by decide) tk (aa_cons (acl D_law_lines_with hr (by decide) tk (aa_cons (av 0) aa_nil) (by rfl)) (aa_cons (aix (av 1) ai) aa_nil)) (by rfl)) an (nomark _))
        (ss_one (s_ret (atup (aa_cons as aa_nil))))
        ss_nil)
      (ss_cons (s_putD 5 hu1 qs (ao ao_add (ao ao_add (asl (av 2) ono (oso (av 3))) (anew (alst (aa_cons (av 4) aa_nil)))) (asl (av 2) (oso (av 3)) ono)))
      (ss_cons (s_putD 5 hu1 qs (anew (adictp rfl (ao ao_add (alc (own := [("one", 6)]) rfl sc_l_due.nd (i_l (av 2)) (blkOk_by (N := n_l_due) (sc := defScope s_l_due) (by decide +kernel)) (by decide) (fun _ _ _ _ _ => (g_nm 6 sc_l_due.nd)) (fun _ _ _ _ _ => ts_nil) (fun _ _ _ _ _ => (atup (aa_cons (av 6) (aa_cons (aget hu1 (kof (aget hu1 (kv 0) qs)) (qv 6)) aa_nil))))) (anew (alst (aa_cons (atup (aa_cons (av 4) (aa_cons (aix (av 1) ai) aa_nil))) aa_nil)))) Tb.dict (by rfl))))
      (ss_cons (s_putD 5 hu1 qs (ao ao_add (av 3) ai))
      (ss_one (s_ret (av 5))))))))
      ss_nil)
    (ss_cons (s_if (tcmp ao_ni (av 4) (av 2) (by rfl))
      (ss_one (s_ret (atup (aa_cons as aa_nil))))
      ss_nil)
    (ss_cons (s_if (tcmp (ao_eq hu) (aix (av 1) ai) as (nomark _))
      (ss_one (s_ret (acl D_law_swap hr (by decide) tk (aa_cons (av 0) (aa_cons (av 4) aa_nil)) (by rfl))))
      ss_nil)
    (ss_cons (s_if (tcmp (ao_eq hu) (aix (av 1) ai) as (nomark _))
      (ss_one (s_ret (acl D_law_float hr (by decide) tk (aa_cons (av 0) (aa_cons (av 4) aa_nil)) (by rfl))))
      ss_nil)
    (ss_cons (s_if (tcmp (ao_eq hu) (aix (av 1) ai) as (nomark _))
      (ss_cons (s_while hp (tnot (tval (aisi .tuple (acl D_law_swap hr (by decide) tk (aa_cons (av 5) (aa_cons (av 4) aa_nil)) (by rfl)) Tb.isinstance Tb.tuple (by rfl) (by rfl) (by decide +kernel))))
        (ss_one (s_set 5 (acl D_law_swap hr (by decide) tk (aa_cons (av 5) (aa_cons (av 4) aa_nil)) (by rfl)) sc_l_due.nd)))
      (ss_one (s_ret (av 5))))
      ss_nil)
    (ss_cons (s_set 7 (aidx (av 2) (av 4)) sc_l_due.nd)
    (ss_cons (s_if (wor (tcmp (ao_eq hu) (av 7) ai (nomark _)) (wor1 (tcmp ao_ge (av 7) (av 3) (nomark _)))).at
      (ss_one (s_ret (atup (aa_cons as aa_nil))))
      ss_nil)
    (ss_cons (s_putD 5 hu1 qs (ao ao_add (asl (av 2) ono (oso (av 7))) (asl (av 2) (oso (ao ao_add (av 7) ai)) ono)))
    (s_nest 5 hu1 (adictp rfl (alc (own := [("one", 6)]) rfl sc_l_due.nd (i_l (aget hu1 (kv 5) qs)) (blkOk_by (N := n_l_due) (sc := defScope s_l_due) (by decide +kernel)) (by decide) (fun _ _ _ _ _ => (g_nm 6 sc_l_due.nd)) (fun _ _ _ _ _ => ts_nil) (fun _ _ _ _ _ => (atup (aa_cons (av 6) (aa_cons (aget hu1 (kof (aget hu1 (kv 0) qs)) (qv 6)) aa_nil))))) Tb.dict (by rfl)) (acl D_joined hr (by decide) tk (aa_cons (aget hu1 (kof (aget hu1 (kv 0) qs)) (qix (qv 2) (qsub (qv 7) qi))) (aa_cons (aget hu1 (kof (aget hu1 (kv 0) qs)) (qv 4)) aa_nil)) (by rfl)) (qix (qv 2) (qsub (qv 7) qi))
    (ss_cons (s_putD 5 hu1 qs (ao ao_sub (av 3) ai))
    (ss_one (s_ret (av 5)))))))))))))))))))), fun EA xs S Q h hn => ?_⟩
  obtain ⟨N, W, pk, kind, x, p, rfl, hh, G, hN, hk, wx, hp, hgr, k1, k2⟩ := h
  have z2 : 2 ≤ sizeLine := sz3
  have z1 : 1 ≤ sizeLine := sz3
  have sk := kinds_ok hk
  have lw := many_len G (by omega)
  have few := G.few
  have lk := hh.l
  obtain ⟨m, hm, _, om, lm⟩ := G.lines (by omega)
  have hlw := linesW_eq hm
  unfold dueW at k1 k2
  refine ⟨.lst (W.words.map .str), l4_w, .int (W.many : Nat), l4_m, .str x, rfl, ?_⟩
  dsimp only []
  refine seqI ?_
  show sOwn _ _ _ (Ab.A.mk [some (.im (worldD W pk)), some (.im (deedD kind x p)), some (.im (.lst (W.words.map .str))), some (.im (.int (W.many : Nat))), some (.im (.str x)), none, none, none] S)
  refine rd_own rfl ?_
  dsimp only []
  show sSeq _ _ (endA EA Q) (Ab.A.mk [some (.im (worldD W pk)), some (.im (deedD kind x p)), some (.im (.lst (W.words.map .str))), some (.im (.int (W.many : Nat))), some (.im (.str x)), some (.owd (wl W pk)), none, none] S)
  refine seqI ?_
  refine rd_kind rfl sk (by decide +kernel) (fun e => ?_) (fun e => ?_)
  · rw [if_pos e] at k1 k2
    refine ⟨by show 4 < sizeLine; rw [sizeLine_eq]; omega, ?_⟩
    refine ⟨rfl, rfl, ?_⟩
    show if same (.int (W.many : Nat)) (.int 0) = true then _ else _
    rw [same_int]
    refine ite2 (fun h1 => ?_) (fun h1 => ?_)
    · have h1 : W.many = 0 := by simpa using h1
      rw [if_pos h1] at k1
      exact ⟨z1, k1 _ rfl⟩
    · have h1 : ¬ W.many = 0 := by simpa using h1
      rw [if_neg h1] at k2
      show Q (.dct (putD (l4 (strsD W.base) (.lst (W.words.map .str)) (.dct pk) (.int (W.many : Nat))) "many" (.int ((W.many : Nat) - 1)))) S
      rw [p4_m, show ((W.many : Nat) - 1 : Int) = ((W.many - 1 : Nat) : Int) by omega]
      exact k2 _ rfl pk ⟨hh.p, hh.l, hh.n⟩
  rw [if_neg e] at k1 k2
  refine nxI ?_
  dsimp only []
  refine seqI ?_
  refine rd_kind rfl sk (by decide +kernel) (fun e => ?_) (fun e => ?_)
  · rw [if_pos e] at k1 k2
    refine ⟨by show 4 < sizeLine; rw [sizeLine_eq]; omega, ?_⟩
    dsimp only []
    show sSeq _ _ _ (Ab.A.mk [some (.im (worldD W pk)), some (.im (deedD kind x p)), some (.im (.lst (W.words.map .str))), some (.im (.int (W.many : Nat))), some (.im (.str x)), some (.owd (putD (wl W pk) "many" (.int ((W.many : Nat) + 1)))), none, none] S)
    refine ⟨rfl, rfl, ?_⟩
    show if same (.int (W.many : Nat)) (.int ((W.words.map D.str).length : Nat)) = true then _ else _
    rw [same_int, List.length_map]
    refine ite2 (fun h1 => ?_) (fun h1 => ?_)
    · have h1 : W.many = W.words.length := by have := of_decide_eq_true h1; omega
      rw [if_pos h1] at k1
      exact ⟨z1, k1 _ rfl⟩
    · have h1 : ¬ W.many = W.words.length := by simp at h1; omega
      rw [if_neg h1] at k1 k2
      have hlt : W.many < W.words.length := by have := G.many; omega
      have hy : W.words[W.many]? = some W.words[W.many] := List.getElem?_eq_getElem hlt
      obtain ⟨q, hq⟩ := G.at (List.getElem_mem hlt)
      have pq := G.pat _ q hq
      rw [hy] at k1 k2
      simp only [Option.bind_some, hq, hlw] at k1 k2
      refine ⟨rfl, N, W, pk, m, rfl, hh, G, by omega, hm, .dct pk, l4_p, .str W.words[W.many], nth_words hy, paD q, hh.p.some hq, rfl, m, q, rfl, om, pq.fine, pq.short (by omega) (by omega), fun n en => ?_, fun en => ?_⟩
      · rw [putOn_app pq.v] at en
        rw [en] at k2
        show Q (.dct (putD (l4 (strsD W.base) (.lst (W.words.map .str)) (.dct pk) (.int (W.many : Nat))) "many" (.int ((W.many : Nat) + 1)))) S
        rw [p4_m]
        exact k2 _ rfl pk ⟨hh.p, hh.l, hh.n⟩
      · rw [putOn_app pq.v] at en
        rw [en] at k1
        exact ⟨z1, k1 _ rfl⟩
  rw [if_neg e] at k1 k2
  refine nxI ?_
  dsimp only []
  refine seqI ?_
  refine rd_kind rfl sk (by decide +kernel) (fun e => ?_) (fun e => ?_)
  · rw [if_pos e] at k1 k2
    refine ⟨paD p, at2, rfl, N, N + 4, W, pk, p, rfl, hh, G, by omega, hp, by omega, fun en => ?_, fun b hb => ⟨fun y hy => ?_, fun g hg pk' hpk => ?_⟩⟩
    · rw [en] at k1
      exact k1 _ rfl
    · rw [hb] at k1
      simp only [hy] at k1
      exact k1 _ rfl
    · rw [hb] at k2
      simp only [hg] at k2
      exact k2 _ rfl pk' hpk
  rw [if_neg e] at k1 k2
  refine nxI ?_
  dsimp only []
  refine seqI ?_
  refine rd_kind rfl sk (by decide +kernel) (fun e => ?_) (fun e => ?_)
  · rw [if_pos e] at k1 k2
    refine ⟨rfl, flat_words, ?_⟩
    show (if inD (.str x) (W.words.map D.str) = true then _ else _)
    rw [inD_words]
    refine ite2 (fun h1 => ?_) (fun h1 => ?_)
    · have h1 : x ∈ W.words := by simpa using h1
      rw [if_pos h1] at k1
      exact ⟨z2, k1 _ rfl⟩
    · have h1 : ¬ x ∈ W.words := by simpa using h1
      rw [if_neg h1, hlw] at k1 k2
      refine ⟨rfl, N, W, pk, m, rfl, hh, G, by omega, hm, paD p, at2, rfl, m, p, rfl, om, hp.fine, hp.short (by omega) (by omega), fun n en => ?_, fun en => ?_⟩
      · rw [putOn_app hp.v] at en
        rw [en] at k2
        have l1 : (W.words.take W.many).length + (W.words.drop W.many).length = W.words.length := by rw [← List.length_append, List.take_append_drop]
        have l2 : (W.words.drop W.many).length ≤ W.words.length := by rw [List.length_drop]; omega
        have et : cutD (W.words.map D.str) none (some (W.many : Int)) = (W.words.take W.many).map D.str := by rw [cutD_take, List.map_take]
        have ed : cutD (W.words.map D.str) (some (W.many : Int)) none = (W.words.drop W.many).map D.str := by rw [cutD_end (by omega), List.map_drop]; rfl
        refine ⟨z1, ?_, ?_, by show 4 < sizeLine; rw [sizeLine_eq]; omega, ?_⟩
        · show (cutD (W.words.map D.str) none (some (W.many : Int))).length + 1 ≤ _
          rw [et, List.length_map]; omega
        · show (cutD (W.words.map D.str) none (some (W.many : Int)) ++ [D.str x]).length + (cutD (W.words.map D.str) (some (W.many : Int)) none).length ≤ _
          rw [et, ed, List.length_append, List.length_map, List.length_map]; simp only [List.length_cons, List.length_nil]; omega
        · dsimp only []
          have e3 : cutD (W.words.map D.str) none (some (W.many : Int)) ++ [D.str x] ++ cutD (W.words.map D.str) (some (W.many : Int)) none = (W.words.take W.many ++ [x] ++ W.words.drop W.many).map D.str := by rw [et, ed]; simp
          show sSeq _ _ _ (Ab.A.mk [some (.im (worldD W pk)), some (.im (deedD kind x p)), some (.im (.lst (W.words.map .str))), some (.im (.int (W.many : Nat))), some (.im (.str x)), some (.owd (putD (l4 (strsD W.base) (.lst (W.words.map .str)) (.dct pk) (.int (W.many : Nat))) "words" (.lst (cutD (W.words.map D.str) none (some (W.many : Int)) ++ [D.str x] ++ cutD (W.words.map D.str) (some (W.many : Int)) none)))), none, none] S)
          rw [e3, p4_w]
          show lcA _ _ _ _ (W.words.map .str) _ _ _
          refine lcA_inv D.str (fun r a acc => ∃ dn : List (Str × D), W.words = dn.map (·.1) ++ r ∧ (∀ e ∈ dn, (W.pat e.1).map paD = some e.2) ∧ acc = dn.map kvD ∧ a = ⟨[some (.im (worldD W pk)), some (.im (deedD kind x p)), some (.im (.lst (W.words.map .str))), some (.im (.int (W.many : Nat))), some (.im (.str x)), some (.owd (l4 (strsD W.base) (.lst ((W.words.take W.many ++ [x] ++ W.words.drop W.many).map D.str)) (.dct pk) (.int (W.many : Nat)))), none, none], S⟩) ?_ ?_ W.words _ [] ⟨[], rfl, (fun _ h => nomatch h), rfl, rfl⟩
          · rintro y r a acc N' ⟨dn, q1, q2, rfl, rfl⟩ hN'
            obtain ⟨q, hq⟩ := G.at (show y ∈ W.words by rw [q1]; simp)
            have := congrArg List.length q1
            simp at this
            refine ⟨.dct pk, l4_p, paD q, hh.p.some hq, z2, ?_, hN' _ _ ⟨dn ++ [(y, paD q)], by rw [q1]; simp, fun e he => ?_, by rw [List.map_append]; rfl, rfl⟩⟩
            · rw [List.length_map]; omega
            · rcases List.mem_append.mp he with z | z
              · exact q2 e z
              · rw [List.mem_singleton.mp z, hq]; rfl
          · rintro a acc ⟨dn, q1, q2, rfl, rfl⟩
            rw [List.append_nil] at q1
            have ld : dn.length = W.words.length := by rw [q1]; simp
            refine ⟨paD p, at2, z2, z1, by rw [List.length_map]; show dn.length + 1 ≤ sizeLine; omega, dn ++ [(x, paD p)], by rw [List.map_append]; rfl, by show 4 < sizeLine; rw [sizeLine_eq]; omega, ?_⟩
            dsimp only []
            show sSeq _ _ _ (Ab.A.mk [some (.im (worldD W pk)), some (.im (deedD kind x p)), some (.im (.lst (W.words.map .str))), some (.im (.int (W.many : Nat))), some (.im (.str x)), some (.owd (putD (l4 (strsD W.base) (.lst ((W.words.take W.many ++ [x] ++ W.words.drop W.many).map D.str)) (.dct pk) (.int (W.many : Nat))) "patches" (.dct (mergeD [] (dn ++ [(x, paD p)]))))), none, none] S)
            rw [p4_p]
            refine ⟨by show 4 < sizeLine; rw [sizeLine_eq]; omega, ?_⟩
            show Q (.dct (putD (l4 (strsD W.base) (.lst ((W.words.take W.many ++ [x] ++ W.words.drop W.many).map D.str)) (.dct (mergeD [] (dn ++ [(x, paD p)]))) (.int (W.many : Nat))) "many" (.int ((W.many : Nat) + 1)))) S
            rw [p4_m]
            obtain ⟨d1, d2, d3⟩ := dict_of (g := setP W.pat x p) (L := dn ++ [(x, paD p)]) (fun e he => by
              rcases List.mem_append.mp he with z | z
              · rw [setP_ne (fun ez => h1 (by rw [q1, ← ez]; exact List.mem_map_of_mem z))]; exact q2 e z
              · rw [List.mem_singleton.mp z, setP_same]; rfl) (fun y hy => by
              rw [List.map_append, List.mem_append, ← q1] at hy
              rw [setP_ne (fun ez => hy (.inr (by rw [ez]; simp)))]
              exact (no_of G fun z => hy (.inl z)).2)
            refine k2 _ rfl (mergeD [] (dn ++ [(x, paD p)])) ⟨d1, ?_, d3⟩
            show _ ≤ (W.words.take W.many ++ [x] ++ W.words.drop W.many).length
            rw [List.length_append, List.length_singleton] at d2
            rw [List.length_append, List.length_append, List.length_singleton]
            omega
      · rw [putOn_app hp.v] at en
        rw [en] at k1
        exact ⟨z1, k1 _ rfl⟩
  rw [if_neg e] at k1 k2
  refine nxI ?_
  dsimp only []
  refine seqI ?_
  refine ⟨rfl, flat_words, ?_⟩
  show (if (!inD (.str x) (W.words.map D.str)) = true then _ else _)
  rw [inD_words]
  by_cases hx : x ∈ W.words
  case neg =>
    rw [decide_eq_false hx]
    rw [if_pos hx] at k1
    exact ⟨z1, k1 _ rfl⟩
  rw [decide_eq_true hx]
  rw [if_neg (fun z => z hx)] at k1 k2
  refine nxI ?_
  dsimp only []
  refine seqI ?_
  refine rd_kind rfl sk (by decide +kernel) (fun e => ?_) (fun e => ?_)
  · rw [if_pos e] at k1 k2
    exact ⟨rfl, N, W, pk, x, rfl, hh, G, by omega, fun z => (by rw [z] at k1; exact k1 _ rfl), fun z => (by rw [z] at k1; exact k1 _ rfl), fun W' z pk' hpk => (by rw [z] at k2; exact k2 _ rfl pk' hpk)⟩
  rw [if_neg e] at k1 k2
  refine nxI ?_
  dsimp only []
  refine seqI ?_
  refine rd_kind rfl sk (by decide +kernel) (fun e => ?_) (fun e => ?_)
  · rw [if_pos e] at k1 k2
    exact ⟨rfl, N, W, pk, x, rfl, hh, G, by omega, hx, fun z => (by rw [z] at k1; exact k1 _ rfl), fun W' z pk' hpk => (by rw [z] at k2; exact k2 _ rfl pk' hpk)⟩
  rw [if_neg e] at k1 k2
  refine nxI ?_
  dsimp only []
  refine seqI ?_
  refine rd_kind rfl sk (by decide +kernel) (fun e => ?_) (fun e => ?_)
  · rw [if_pos e] at k1 k2
    have k3 := k2 _ rfl
    refine ⟨fun n a => ∃ (W' : Wd) (pk' : List (Str × D)) (r5 : AV), (r5 = .owd (wl W' pk') ∨ r5 = .im (worldD W' pk')) ∧ a = ⟨[some (.im (worldD W pk)), some (.im (deedD kind x p)), some (.im (.lst (W.words.map .str))), some (.im (.int (W.many : Nat))), some (.im (.str x)), some r5, none, none], S⟩ ∧ Good N W' ∧ Held W' pk' ∧ n = idx x W'.words ∧ (sinkW n W' x).1 = (sinkW (idx x W.words) W x).1, ⟨_, W, pk, _, .inl rfl, rfl, G, hh, rfl, rfl⟩, ?_⟩
    rintro n a ⟨W', pk', r5, hr5, rfl, G', hh', rfl, e3⟩
    have fin : sinkW (idx x W'.words) W' x = (W', 0) → Q (worldD W' pk') S := fun z => by
      rw [z] at e3
      exact k3 pk' (by rw [← e3]; exact hh') |> fun q => by rw [← e3] at q; exact q
    have stop : (∀ W2, swapW W' x ≠ .ok W2) → Q (worldD W' pk') S := fun z => fin (by
      cases h : idx x W'.words with
      | zero => rfl
      | succ i =>
        rw [sinkW]
        cases e : swapW W' x with
        | ok W2 => exact absurd e (z W2)
        | no => rfl
        | ref => rfl)
    rcases hr5 with rfl | rfl
    all_goals
      refine ⟨rfl, N, W', pk', x, rfl, hh', G', by omega, fun z => ?_, fun z => ?_, fun W2 z pk2 hh2 => ?_⟩
      · exact stop (fun W2 h => by rw [z] at h; cases h)
      · exact stop (fun W2 h => by rw [z] at h; cases h)
      · obtain ⟨g1, g2, g3, g4, g5, g6, g7⟩ := swap_ok G' z
        refine ⟨rfl, N, W', pk', x, rfl, hh', G', by omega, fun y => (by rw [z] at y; cases y), fun y => (by rw [z] at y; cases y), fun W3 y pk3 hh3 => ?_⟩
        rw [z] at y; cases y
        obtain ⟨i, hi⟩ := Nat.exists_eq_succ_of_ne_zero (show idx x W'.words ≠ 0 by omega)
        rw [hi, sinkW, z] at e3
        exact ⟨i, by omega, W2, pk3, _, .inr rfl, rfl, g1, hh3, by omega, e3⟩
  rw [if_neg e] at k1 k2
  refine nxI ?_
  dsimp only []
  refine seqI ?_
  refine ⟨flat_words, rfl, idx x W.words, at_words hx, fun m h => no_words h, ?_⟩
  dsimp only []
  refine seqI ?_
  rcases fold_cases G x with ⟨e5, c⟩ | ⟨A, o, B, f, s, h1, e5⟩
  · rw [e5] at k1
    refine rd_edge2 (i := 7) (n := idx x W.words) (m := W.many) rfl (fun Q hQ => hQ) (fun _ => ?_) (fun d => absurd c d)
    exact ⟨z1, k1 _ rfl⟩
  · rw [e5] at k2
    have k3 := k2 _ rfl
    have hi := h1.i
    have hm2 := h1.m
    obtain ⟨ne, nA, nB⟩ := swap_ne G h1.w
    obtain ⟨l, l1, l2, m', r1, r2, r3, r4, y1, y2, y3, o1, o2, y4, y5⟩ := h1.runs G
    have pf := G.pat _ _ h1.f
    have ps := G.pat _ _ h1.s
    have lw2 : W.words.length = A.length + B.length + 2 := by rw [h1.w]; simp; omega
    have ato : atI (W.words.map D.str) ((idx x W.words : Nat) - 1 : Int) = some (.str o) := by
      rw [show ((idx x W.words : Nat) - 1 : Int) = (A.length : Nat) by omega, atI_nat (by rw [h1.w]; simp), h1.w]
      simp
    refine rd_edge2 (i := 7) (n := idx x W.words) (m := W.many) rfl (fun Q hQ => hQ) (fun d => by omega) (fun _ => ?_)
    refine nxI ?_
    dsimp only []
    have ep : cutD (W.words.map D.str) none (some ((idx x W.words : Nat) : Int)) = (A ++ [o]).map D.str := by
      rw [cutD_take, ← List.map_take, hi, h1.w, show A ++ o :: x :: B = (A ++ [o]) ++ x :: B by simp, take_len (by simp)]
    have eb := h1.cuts.2
    refine seqI ?_
    refine ⟨?_, by show 4 < sizeLine; rw [sizeLine_eq]; omega, ?_⟩
    · show (cutD (W.words.map D.str) none (some ((idx x W.words : Nat) : Int))).length + (cutD (W.words.map D.str) (some ((idx x W.words : Nat) + 1 : Int)) none).length ≤ _
      rw [ep, eb, List.length_map, List.length_map, List.length_append]; simp only [List.length_cons, List.length_nil]; omega
    dsimp only []
    refine seqI ?_
    show sNest _ _ _ _ _ (Ab.A.mk [some (.im (worldD W pk)), some (.im (deedD kind x p)), some (.im (.lst (W.words.map .str))), some (.im (.int (W.many : Nat))), some (.im (.str x)), some (.owd (putD (l4 (strsD W.base) (.lst (W.words.map .str)) (.dct pk) (.int (W.many : Nat))) "words" (.lst (cutD (W.words.map D.str) none (some ((idx x W.words : Nat) : Int)) ++ cutD (W.words.map D.str) (some ((idx x W.words : Nat) + 1 : Int)) none)))), none, some (.im (.int (idx x W.words : Nat)))] S)
    rw [ep, eb, ← List.map_append, show A ++ [o] ++ B = A ++ o :: B by simp, p4_w]
    have mem : ∀ y ∈ A ++ o :: B, ∃ q, W.pat y = some q := fun y hy => G.at (by rw [h1.w]; simp at hy ⊢; rcases hy with h | h | h <;> simp [h])
    refine ⟨_, l4_w, ?_⟩
    show lcA _ _ _ _ ((A ++ o :: B).map .str) _ _ _
    refine lcA_inv D.str (fun r a acc => ∃ dn : List (Str × D), A ++ o :: B = dn.map (·.1) ++ r ∧ (∀ e ∈ dn, (W.pat e.1).map paD = some e.2) ∧ acc = dn.map kvD ∧ a = ⟨[some (.im (worldD W pk)), some (.im (deedD kind x p)), some (.im (.lst (W.words.map .str))), some (.im (.int (W.many : Nat))), some (.im (.str x)), some (.owd (l4 (strsD W.base) (.lst ((A ++ o :: B).map D.str)) (.dct pk) (.int (W.many : Nat)))), none, some (.im (.int (idx x W.words : Nat)))], S⟩) ?_ ?_ (A ++ o :: B) _ [] ⟨[], rfl, (fun _ h => nomatch h), rfl, rfl⟩
    · rintro y r a acc N' ⟨dn, q1, q2, rfl, rfl⟩ hN'
      obtain ⟨q, hq⟩ := mem y (by rw [q1]; simp)
      have := congrArg List.length q1
      simp at this
      refine ⟨.dct pk, l4_p, paD q, hh.p.some hq, z2, ?_, hN' _ _ ⟨dn ++ [(y, paD q)], by rw [q1]; simp, fun e he => ?_, by rw [List.map_append]; rfl, rfl⟩⟩
      · rw [List.length_map]; omega
      · rcases List.mem_append.mp he with z | z
        · exact q2 e z
        · rw [List.mem_singleton.mp z, hq]; rfl
    · rintro a acc ⟨dn, q1, q2, rfl, rfl⟩
      rw [List.append_nil] at q1
      have ld : dn.length = A.length + B.length + 1 := by have := congrArg List.length q1; simp at this; omega
      have d2 := merge_len (L := dn) (acc := [])
      rw [List.length_nil, Nat.zero_add] at d2
      refine ⟨dn, rfl, by show 4 < sizeLine; rw [sizeLine_eq]; omega, ?_⟩
      refine ⟨.dct pk, l4_p, .str o, ato, paD f, hh.p.some h1.f, .dct pk, l4_p, paD s, hh.p.some h1.s, rfl, joined_of ⟨f, s, l, l1, l2, rfl, pf.v, ps.v, pf.o, ps.o, r2, r3, by omega, by omega, by omega, ?_⟩⟩
      refine ⟨.str o, ato, by omega, ?_⟩
      dsimp only []
      refine seqI ?_
      show sPutD _ _ _ _ (Ab.A.mk [some (.im (worldD W pk)), some (.im (deedD kind x p)), some (.im (.lst (W.words.map .str))), some (.im (.int (W.many : Nat))), some (.im (.str x)), some (.owd (putD (l4 (strsD W.base) (.lst ((A ++ o :: B).map D.str)) (.dct pk) (.int (W.many : Nat))) "patches" (.dct (putD (mergeD [] dn) o (paD (joinP f s)))))), none, some (.im (.int (idx x W.words : Nat)))] S)
      rw [p4_p]
      refine ⟨by show 4 < sizeLine; rw [sizeLine_eq]; omega, ?_⟩
      show Q (.dct (putD (l4 (strsD W.base) (.lst ((A ++ o :: B).map D.str)) (.dct (putD (mergeD [] dn) o (paD (joinP f s)))) (.int (W.many : Nat))) "many" (.int ((W.many : Nat) - 1)))) S
      rw [p4_m, show ((W.many : Nat) - 1 : Int) = ((W.many - 1 : Nat) : Int) by omega]
      refine k3 (putD (mergeD [] dn) o (paD (joinP f s))) ⟨fun y => ?_, ?_, nd_put (merge_nd (fun _ h => (nomatch h)) fun e he => ?_) nd_pa⟩
      · rw [lookD_put, merge_look (f := fun y => (W.pat y).map paD) q2, ← q1]
        show _ = ((if y = x then none else setP W.pat o (joinP f s) y) : Option (List Hk)).map paD
        by_cases e1 : y = o
        · rw [if_pos e1, e1, if_neg (fun z => ne z.symm), setP_same]; rfl
        · rw [if_neg e1]
          by_cases e2 : y = x
          · rw [if_pos e2, if_neg]
            · rfl
            · rw [e2]; intro z
              rcases List.mem_append.mp z with z | z
              · exact (nA x z).1 rfl
              · rcases List.mem_cons.mp z with z | z
                · exact ne z
                · exact (nB x z).1 rfl
          · rw [if_neg e2, setP_ne e1]
            by_cases e3 : y ∈ A ++ o :: B
            · rw [if_pos e3]
            · rw [if_neg e3]
              cases eq : W.pat y with
              | none => rfl
              | some p =>
                have := (G.key y).mp (by rw [eq]; rfl)
                rw [h1.w] at this
                exact absurd (by simp at this ⊢; rcases this with h | h | h | h; exact .inl h; exact .inr (.inl h); exact absurd h e2; exact .inr (.inr h)) e3
      · show _ ≤ (A ++ o :: B).length
        have hs : (lookD (mergeD [] dn) o).isSome = true := by
          rw [merge_look (f := fun y => (W.pat y).map paD) q2, ← q1, if_pos (by simp), h1.f]; rfl
        rw [putD_same hs]
        simp; omega
      · have := q2 e he
        cases q : W.pat e.1 with
        | none => rw [q] at this; cases this
        | some p => rw [q] at this; rw [← Option.some.inj this]; exact nd_pa
end
end Ab


namespace Ab
open PySem L2
def fDraw : FD := fun _ xs S P => ∃ n : Int, xs = [.rng, .im (.int n)] ∧ 0 < n ∧ n < 1073741824 ∧ ∀ d : Int, 0 ≤ d → d < n → P (.int d) S
section
variable {P : Program} {w : World} {K : PySem.W.Frag} {mg : Str → Option Value} {base : Heap} {Z : Cl}
abbrev s_l_draw : Stmt := top 29
abbrev n_l_draw : List Str := ["state", "limit", "position", "cell", "mixed", "digit"]
theorem sc_l_draw : FnScope n_l_draw ["state", "limit"] (defScope s_l_draw) := ⟨rfl, rfl, rfl, by decide +kernel, rfl, by decide +kernel, by decide +kernel⟩
theorem ok_l_draw {f : Addr} {fd : FuncData} (Fn : Fun K "_law_draw" "_law_draw" s_l_draw f fd) (Tb : Blt mg) : FnOk P w K mg base (L2.CX P w) 1 f fd ["state", "limit"] (spA Z 2 fDraw) := by
  refine aok Fn sc_l_draw rfl fun cdv A outer s H E hr => ?_
  refine ⟨_, (ss_cons (s_if (tcmp ao_lt (arng 0) (av 1) (nomark _))
      (ss_cons (s_set 2 (arng 0) sc_l_draw.nd)
      (ss_cons (s_setR 0 (ao ao_add (av 2) ai))
      (ss_cons (s_set 3 ai sc_l_draw.nd)
      (ss_cons (s_cell 0 2 3 Tb.len sc_l_draw.nd (by rfl))
      (ss_one (s_if (tcmp ao_ge (av 3) (ao ao_pow ai ai) (nomark _))
        (ss_one (s_setR 0 (av 3)))
        (ss_cons (s_setR 0 (ao ao_mod (aint (ao ao_mul (ao ao_add (ao ao_add (ao ao_add (arng 0) (ao ao_mod (aint (av 3) Tb.int (by rfl)) ai)) (av 2)) ai) ai) Tb.int (by rfl)) ai))
        (ss_cons (s_set 4 (ao ao_mod (aint (ao ao_add (ao ao_mul (arng 0) ai) ai) Tb.int (by rfl)) ai) sc_l_draw.nd)
        (ss_one (s_setR 0 (ao ao_add (ao ao_mul (av 4) ai) (ao ao_mod (aint (ao ao_add (ao ao_mul (av 4) ai) (arng 0)) Tb.int (by rfl)) ai))))))))))))
      ss_nil)
    (ss_cons (s_set 5 (ao ao_mod (aint (arng 0) Tb.int (by rfl)) (av 1)) sc_l_draw.nd)
    (ss_cons (s_setR 0 (ao ao_div (arng 0) (av 1)))
    (ss_one (s_ret (av 5)))))), fun EA xs S Q h hn => ?_⟩
  obtain ⟨n, rfl, h0, h1, hk⟩ := h
  have fin : ∀ r2 r3 r4 : Option AV, sSeq (sSet 5 (fOp FMod (fInt (fRng 0 0)) (fVar 1))) (sSeq (sSetR 0 0 (fOp FDiv (fRng 0 0) (fVar 1))) (sRet (fVar 5))) (endA EA Q) (Ab.A.mk [some .rng, some (.im (.int n)), r2, r3, r4, none] S) := fun r2 r3 r4 => by
    refine ⟨.inl rfl, fun c _ => ⟨h0, .inl rfl, fun c2 _ => ⟨⟨h0, h1⟩, .inl rfl, fun z => (by cases z), ?_⟩⟩⟩
    exact hk (c % n) (Int.emod_nonneg _ (by omega)) (Int.emod_lt_of_pos _ h0)
  refine ⟨.inl rfl, fun c _ => ?_⟩
  refine ite2 (fun h2 => ?_) (fun h2 => ?_)
  · refine ⟨.inr (.inl rfl), fun c1 hc1 => ?_⟩
    have hc1 := hc1 rfl
    refine ⟨.inr (.inl rfl), fun _ => by show 0 ≤ c1 + 1; omega, ?_⟩
    refine ⟨hc1, fun c2 => ?_⟩
    refine ⟨⟨by omega, by omega, by decide⟩, ?_⟩
    show if _ then _ else _
    refine ite2 (fun h3 => ?_) (fun h3 => ?_)
    · exact ⟨.inl rfl, fun z => (by cases z), fin _ _ _⟩
    · refine ⟨.inr (.inr rfl), fun c3 _ => ⟨by omega, ⟨by omega, by omega⟩, by omega, .inr (.inr rfl), fun z => (by cases z), ?_⟩⟩
      refine ⟨.inr (.inr rfl), fun c4 _ => ⟨⟨by omega, by omega⟩, by omega, ⟨by omega, by omega⟩, ⟨by omega, by omega⟩, .inr (.inr rfl), fun c5 _ => ⟨by omega, .inl rfl, fun z => (by cases z), ?_⟩⟩⟩
      exact fin _ _ _
  · exact fin _ _ _
end
end Ab


namespace Ab
open PySem L2
structure Drawn (p : List Hk) : Prop where
  v : valid (-1) p = true
  o : OkP p
  l : p.length ≤ 2
  g : gsum p ≤ 4
  c : csum p ≤ 4
def fChange : FD := fun _ xs S P => ∃ l : List Str, xs = [.rng, .im (strsD l)] ∧ okL l ∧ l.length ≤ 1000 ∧ ∀ p, Drawn p → P (paD p) S
theorem wxyz {d : Int} (h0 : 0 ≤ d) (h1 : d < 4) : ∃ c, atI ("wxyz" : Str).cps.toList d = some c ∧ PyData.strOk ((⟨#[c]⟩ : Str) ++ ("\n" : Str)) = true := by
  have : d = 0 ∨ d = 1 ∨ d = 2 ∨ d = 3 := by omega
  rcases this with rfl | rfl | rfl | rfl
  · exact ⟨_, rfl, by decide +kernel⟩
  · exact ⟨_, rfl, by decide +kernel⟩
  · exact ⟨_, rfl, by decide +kernel⟩
  · exact ⟨_, rfl, by decide +kernel⟩
theorem one_len {c : Nat} : (⟨#[c]⟩ : Str).length + ("\n" : Str).length ≤ sizeLine := sz3 (n := 2)
section
variable {P : Program} {w : World} {K : PySem.W.Frag} {mg : Str → Option Value} {base : Heap} {Z : Cl}
abbrev s_l_change : Stmt := top 30
abbrev n_l_change : List Str := ["state", "lines", "found", "here", "start", "many", "come", "k"]
theorem sc_l_change : FnScope n_l_change ["state", "lines"] (defScope s_l_change) := ⟨rfl, rfl, rfl, by decide +kernel, rfl, by decide +kernel, by decide +kernel⟩
theorem ok_l_change {f : Addr} {fd : FuncData} (Fn : Fun K "_law_change" "_law_change" s_l_change f fd) (Tb : Blt mg) (D_law_draw : Dfn P w K mg base Z 1 "_law_draw" 2 fDraw) : FnOk P w K mg base (L2.CX P w) 2 f fd ["state", "lines"] (spA Z 2 fChange) := by
  refine aok Fn sc_l_change rfl fun cdv A outer s H E hr => ?_
  have hp := passes_of (X := cxOf (L2.CX P w) P w K mg base n_l_change "_law_change" (defScope s_l_change) f cdv A outer s H E) rfl
  have tk := takes_of (X := cxOf (L2.CX P w) P w K mg base n_l_change "_law_change" (defScope s_l_change) f cdv A outer s H E) rfl rfl rfl rfl
  have hu := hu64 hr
  refine ⟨_, (ss_cons (s_own 2 (alst aa_nil) sc_l_change.nd)
    (ss_cons (s_set 3 ai sc_l_change.nd)
    (ss_cons (s_while hp (wand (tcmp ao_le (av 3) (alen (av 1) Tb.len (by rfl)) (nomark _)) (wand1 (tcmp ao_lt (alenL (lv 2) Tb.len (by rfl)) ai (nomark _)))).at
      (ss_cons (s_set 4 (ao ao_add (av 3) (acl D_law_draw hr (by decide) tk (aa_tok 0 (aa_cons ai aa_nil)) (by rfl))) sc_l_change.nd)
      (ss_cons (s_set 5 (acl D_law_draw hr (by decide) tk (aa_tok 0 (aa_cons ai aa_nil)) (by rfl)) sc_l_change.nd)
      (ss_cons (s_if (tcmp ao_gt (ao ao_add (av 4) (av 5)) (alen (av 1) Tb.len (by rfl)) (nomark _))
        (ss_one (s_ret (atplL (lv 2) Tb.tuple (by rfl))))
        ss_nil)
      (ss_cons (s_set 6 (atpl (alc (own := [("k", 7)]) rfl sc_l_change.nd (i_r (acl D_law_draw hr (by decide) tk (aa_tok 0 (aa_cons ai aa_nil)) (by rfl)) Tb.range (by rfl)) (blkOk_by (N := n_l_change) (sc := defScope s_l_change) (by decide +kernel)) (by decide) (fun _ _ _ _ _ => (g_nm 7 sc_l_change.nd)) (fun _ _ _ _ _ => ts_nil) (fun _ _ _ _ _ => (ao ao_add (aix as (acl D_law_draw hr (by decide) takes0 (aa_tok 0 (aa_cons ai aa_nil)) (by rfl))) as))) Tb.tuple (by rfl)) sc_l_change.nd)
      (ss_cons (s_if (tcmp (ao_ne hu) (av 6) (atpl (asl (av 1) (oso (av 4)) (oso (ao ao_add (av 4) (av 5)))) Tb.tuple (by rfl)) (nomark _))
        (ss_one (s_app 2 (atup (aa_cons (av 4) (aa_cons (atpl (asl (av 1) (oso (av 4)) (oso (ao ao_add (av 4) (av 5)))) Tb.tuple (by rfl)) (aa_cons (av 6) aa_nil))))))
        ss_nil)
      (ss_one (s_set 3 (ao ao_add (ao ao_add (av 4) (av 5)) ai) sc_l_change.nd))))))))
    (ss_one (s_ret (atplL (lv 2) Tb.tuple (by rfl))))))), fun EA xs S Q h hn => ?_⟩
  obtain ⟨l, rfl, ol, ll, hk⟩ := h
  have z3 : 3 ≤ sizeLine := sz3
  have sz := sizeLine_eq
  have hl : (l.map D.str).length = l.length := List.length_map _
  refine ⟨Nat.zero_le _, ?_⟩
  show sSeq (sWhile _ _) _ (endA EA Q) (Ab.A.mk [some .rng, some (.im (strsD l)), some (.owl []), some (.im (.int 0)), none, none, none, none] S)
  refine ⟨fun m a => ∃ (acc : List Hk) (fd : List D) (here : Int) (r4 r5 r6 r7 : Option AV), fd = acc.map hkD ∧ 0 ≤ here ∧ here ≤ l.length + 1 ∧ m = (l.length + 1 - here).toNat ∧ (∀ r, valid (here - 1) r = true → valid (-1) (acc ++ r) = true) ∧ OkP acc ∧ acc.length ≤ 2 ∧ gsum acc ≤ 2 * acc.length ∧ csum acc ≤ 2 * acc.length ∧
    a = ⟨[some .rng, some (.im (strsD l)), some (.owl fd), some (.im (.int here)), r4, r5, r6, r7], S⟩, ⟨_, [], [], 0, none, none, none, none, rfl, Int.le_refl 0, by omega, rfl, fun r h => h, fun _ h => (nomatch h), Nat.zero_le _, Nat.zero_le _, Nat.zero_le _, rfl⟩, ?_⟩
  rintro m a ⟨acc, _, here, r4, r5, r6, r7, rfl, h0, h1, rfl, hv, ho, hln, hg, hc, rfl⟩
  have out : Q (paD acc) S := hk acc ⟨by have := hv [] rfl; rwa [List.append_nil] at this, ho, hln, by omega, by omega⟩
  refine ite2 (fun c1 => ?_) (fun c1 => ?_)
  case refine_2 =>
    dsimp only []
    rw [if_neg Bool.false_ne_true]
    exact out
  have c1 : here ≤ (((l.map D.str).length : Nat) : Int) := of_decide_eq_true c1
  rw [hl] at c1
  dsimp only []
  show if decide ((((acc.map hkD).length : Nat) : Int) < 2) = true then _ else _
  refine ite2 (fun c2 => ?_) (fun c2 => ?_)
  case refine_2 => exact out
  have c2 : ((((acc.map hkD).length : Nat) : Int) < 2) := of_decide_eq_true c2
  rw [List.length_map] at c2
  refine ⟨rfl, 6, rfl, by omega, by omega, fun d1 d10 d11 => ?_⟩
  refine ⟨rfl, 3, rfl, by omega, by omega, fun d2 d20 d21 => ?_⟩
  refine ite2 (fun c3 => ?_) (fun c3 => ?_)
  · exact out
  have c3 : ¬ (((l.map D.str).length : Nat) : Int) < here + d1 + d2 := by simpa using c3
  rw [hl] at c3
  refine ⟨rfl, 3, rfl, by omega, by omega, fun d3 d30 d31 => ?_⟩
  refine ⟨by omega, ?_⟩
  show lcA _ _ _ _ ((List.range d3.toNat).map fun k => D.int (k : Nat)) _ _ _
  refine lcA_inv (fun k : Nat => D.int (k : Nat)) (fun r a acc' => ∃ (ss : List Str), acc' = ss.map D.str ∧ okL ss ∧ ss.length + r.length ≤ 2 ∧ a = ⟨[some .rng, some (.im (strsD l)), some (.owl (acc.map hkD)), some (.im (.int here)), some (.im (.int (here + d1))), some (.im (.int d2)), r6, r7], S⟩) ?_ ?_ (List.range d3.toNat) _ [] ⟨[], rfl, (fun _ h => nomatch h), by rw [List.length_range]; simp; omega, rfl⟩
  · rintro k r a acc' N' ⟨ss, rfl, os, ls, rfl⟩ hN'
    rw [List.length_cons] at ls
    refine ⟨rfl, 4, rfl, by omega, by omega, fun d4 d40 d41 => ?_⟩
    obtain ⟨c, w1, w2⟩ := wxyz d40 d41
    refine ⟨sz3 (n := 4), c, w1, one_len, by rw [List.length_map]; omega, hN' _ _ ⟨ss ++ [(⟨#[c]⟩ : Str) ++ ("\n" : Str)], by rw [List.map_append]; rfl, fun s hs => ?_, by simp; omega, rfl⟩⟩
    rcases List.mem_append.mp hs with z | z
    · exact os s z
    · rw [List.mem_singleton.mp z]; exact w2
  · rintro a acc' ⟨ss, rfl, os, ls, rfl⟩
    simp only [List.length_nil, Nat.add_zero] at ls
    have e1 : cutD (l.map D.str) (some (here + d1)) (some (here + d1 + d2)) = (cut l (here + d1) (here + d1 + d2)).map D.str := by rw [cutD_eq (by omega) (by omega), cut_map]
    dsimp only []
    refine seqI ?_
    refine ⟨okL_cmp (n := 8) os, ?_, ?_⟩
    · show cmp 9 (.tup (cutD (l.map D.str) (some (here + d1)) (some (here + d1 + d2)))) = true
      rw [e1]
      exact okL_cmp (n := 8) (ol.cut _ _)
    show if (!same (strsD ss) (.tup (cutD (l.map D.str) (some (here + d1)) (some (here + d1 + d2))))) = true then _ else _
    rw [e1, show same (strsD ss) (.tup ((cut l (here + d1) (here + d1 + d2)).map D.str)) = decide (ss = cut l (here + d1) (here + d1 + d2)) from same_strs]
    have lc : (cut l (here + d1) (here + d1 + d2)).length = d2.toNat := by
      unfold cut
      rw [List.length_take, List.length_drop]; omega
    by_cases e : ss = cut l (here + d1) (here + d1 + d2)
    · rw [decide_eq_true e]
      exact ⟨_, by omega, acc, _, here + d1 + d2 + 1, _, _, _, _, rfl, by omega, by omega, rfl, fun r hr => hv r (valid_mono (by omega) hr), ho, hln, hg, hc, rfl⟩
    · rw [decide_eq_false e]
      refine ⟨z3, by rw [List.length_map]; omega, ?_⟩
      have hh : valid (-1) ((acc ++ [⟨here + d1, cut l (here + d1) (here + d1 + d2), ss⟩]) ++ []) = true ∧ ∀ r, valid (here + d1 + d2 + 1 - 1) r = true → valid (-1) ((acc ++ [(⟨here + d1, cut l (here + d1) (here + d1 + d2), ss⟩ : Hk)]) ++ r) = true := by
        have : ∀ r, valid (here + d1 + d2) r = true → valid (-1) ((acc ++ [(⟨here + d1, cut l (here + d1) (here + d1 + d2), ss⟩ : Hk)]) ++ r) = true := fun r hr => by
          rw [List.append_assoc]
          refine hv _ (valid_of (show here - 1 < here + d1 by omega) (fun z => e z.symm) ?_)
          show valid (here + d1 + ((cut l (here + d1) (here + d1 + d2)).length : Nat)) ([] ++ r) = true
          rw [lc, List.nil_append]
          exact valid_mono (by omega) hr
        exact ⟨this [] rfl, fun r hr => this r (by rwa [show here + d1 + d2 + 1 - 1 = here + d1 + d2 by omega] at hr)⟩
      refine ⟨_, by omega, acc ++ [⟨here + d1, cut l (here + d1) (here + d1 + d2), ss⟩], _, here + d1 + d2 + 1, _, _, _, _, ?_, by omega, by omega, rfl, hh.2, ?_, ?_, ?_, ?_, rfl⟩
      · rw [List.map_append]
        show acc.map hkD ++ [.tup [.int (here + d1), .tup (cutD (l.map D.str) (some (here + d1)) (some (here + d1 + d2))), strsD ss]] = _
        rw [e1]
        rfl
      · intro k hk
        rcases List.mem_append.mp hk with z | z
        · exact ho k z
        · rw [List.mem_singleton.mp z]; exact ⟨ol.cut _ _, os⟩
      · rw [List.length_append, List.length_singleton]; omega
      · have : gsum (acc ++ [(⟨here + d1, cut l (here + d1) (here + d1 + d2), ss⟩ : Hk)]) = gsum acc + (cut l (here + d1) (here + d1 + d2)).length := by simp [gsum]
        rw [this, lc, List.length_append, List.length_singleton]; omega
      · have : csum (acc ++ [(⟨here + d1, cut l (here + d1) (here + d1 + d2), ss⟩ : Hk)]) = csum acc + ss.length := by simp [csum]
        rw [this, List.length_append, List.length_singleton]; omega
end
end Ab


namespace Ab
open PySem L2
def fHangs : FD := fun _ xs S P => ∃ N W pk x p, xs = [.im (worldD W pk), .im (.str x)] ∧ Held W pk ∧ Good N W ∧ N ≤ 100 ∧ x ∈ W.words ∧ W.pat x = some p ∧
  P (.tup ((hangR W.pat (W.words.take (idx x W.words)).reverse [(x, p)] []).map .str)) S
theorem cmp_hk {h : Hk} {n : Nat} (o : okL h.g ∧ okL h.c) : cmp (n + 2) (hkD h) = true := by
  show cmps (n + 1) [.int h.s, strsD h.g, strsD h.c] = true
  have h1 : cmp (n + 1) (strsD h.g) = true := okL_cmp o.1
  have h2 : cmp (n + 1) (strsD h.c) = true := okL_cmp o.2
  simp [cmps, h1, h2, cmp]
theorem cmps_hk {n : Nat} : ∀ {p : List Hk}, OkP p → cmps (n + 2) (p.map hkD) = true
  | [], _ => by simp [cmps]
  | h :: r, o => by
    rw [List.map_cons, cmps, cmp_hk (o h List.mem_cons_self), cmps_hk fun k hk => o k (List.mem_cons_of_mem _ hk)]
    rfl
theorem cmp_pa {p : List Hk} {n : Nat} (o : OkP p) : cmp (n + 3) (paD p) = true := by
  show cmps (n + 2) (p.map hkD) = true
  exact cmps_hk o
theorem cmp_row {e : Str × List Hk} {n : Nat} (h : PyData.strOk e.1 = true) (o : OkP e.2) : cmp (n + 4) (rowD e) = true := by
  show cmps (n + 3) [.str e.1, paD e.2] = true
  have h2 : cmp (n + 3) (paD e.2) = true := cmp_pa o
  simp [cmps, cmp, h, h2]
theorem cmps_row {n : Nat} : ∀ {r : Rows}, (∀ e ∈ r, PyData.strOk e.1 = true ∧ OkP e.2) → cmps (n + 4) (r.map rowD) = true
  | [], _ => by simp [cmps]
  | e :: r, h => by
    obtain ⟨h1, h2⟩ := h e List.mem_cons_self
    rw [List.map_cons, cmps, cmp_row h1 h2, cmps_row fun k hk => h k (List.mem_cons_of_mem _ hk)]
    rfl
theorem cmp_rows {r : Rows} (h : ∀ e ∈ r, PyData.strOk e.1 = true ∧ OkP e.2) : cmp 9 (optRows (some r)) = true := by
  show cmps 8 (r.map rowD) = true
  exact cmps_row h
def dueD : Option (List Hk) → Rows → D
  | none, _ => .non
  | some _, mv => .lst (mv.map rowD)
def optPa : Option (List Hk) → D
  | none => .non
  | some p => paD p
section
variable {P : Program} {w : World} {K : PySem.W.Frag} {mg : Str → Option Value} {base : Heap} {Z : Cl}
abbrev s_l_hangs : Stmt := top 41
abbrev n_l_hangs : List Str := ["world", "word", "at", "kept", "found", "other", "patch", "moved", "one", "inner", "pair", "due"]
theorem sc_l_hangs : FnScope n_l_hangs ["world", "word"] (defScope s_l_hangs) := ⟨rfl, rfl, rfl, by decide +kernel, rfl, by decide +kernel, by decide +kernel⟩
theorem ok_l_hangs {f : Addr} {fd : FuncData} (Fn : Fun K "_law_hangs" "_law_hangs" s_l_hangs f fd) (Tb : Blt mg) (D_law_swapped : Dfn P w K mg base Z 2 "_law_swapped" 2 fSwapped) (D_past_all : Dfn P w K mg base Z 4 "past_all" 2 fPast) : FnOk P w K mg base (L2.CX P w) 5 f fd ["world", "word"] (spA Z 2 fHangs) := by
  refine aok Fn sc_l_hangs rfl fun cdv A outer s H E hr => ?_
  have hp := passes_of (X := cxOf (L2.CX P w) P w K mg base n_l_hangs "_law_hangs" (defScope s_l_hangs) f cdv A outer s H E) rfl
  have tk := takes_of (X := cxOf (L2.CX P w) P w K mg base n_l_hangs "_law_hangs" (defScope s_l_hangs) f cdv A outer s H E) rfl rfl rfl rfl
  have hu := hu64 hr
  have hu1 := hu2 hr
  refine ⟨_, (ss_cons (s_set 2 (aidx (aget hu1 (kv 0) qs) (av 1)) sc_l_hangs.nd)
    (ss_cons (s_set 3 (anew (alst (aa_cons (atup (aa_cons (av 1) (aa_cons (aget hu1 (kof (aget hu1 (kv 0) qs)) (qv 1)) aa_nil))) aa_nil))) sc_l_hangs.nd)
    (ss_cons (s_set 4 (anew (alst aa_nil)) sc_l_hangs.nd)
    (ss_cons (s_for hp rfl (i_v (asl (aget hu1 (kv 0) qs) ono (oso (av 2))) Tb.reversed (by rfl)) (g_nm 5 sc_l_hangs.nd)
      (ss_cons (s_set 6 (aget hu1 (kof (aget hu1 (kv 0) qs)) (qv 5)) sc_l_hangs.nd)
      (ss_cons (s_set 7 (anew (alst aa_nil)) sc_l_hangs.nd)
      (ss_cons (s_for hp rfl (i_l (av 3)) (g_tp rfl (gs_cons (g_nm 8 sc_l_hangs.nd) (gs_cons (g_nm 9 sc_l_hangs.nd) gs_nil)) (gl1 (gl1 gl0)))
        (ss_cons (s_set 10 (aif (tcmp ao_isN (av 6) an (nomark _)) an (acl D_law_swapped hr (by decide) tk (aa_cons (av 6) (aa_cons (av 9) aa_nil)) (by rfl))) sc_l_hangs.nd)
        (ss_cons (s_set 6 (aif (tcmp ao_isN (av 10) an (nomark _)) an (aix (av 10) ai)) sc_l_hangs.nd)
        (ss_one (s_set 7 (ao ao_add (av 7) (aif (tcmp ao_isN (av 10) an (nomark _)) (anew (alst aa_nil)) (anew (alst (aa_cons (atup (aa_cons (av 8) (aa_cons (aix (av 10) ai) aa_nil))) aa_nil))))) sc_l_hangs.nd)))))
      (ss_cons (s_set 11 (aif (tcmp ao_notN (av 6) an (nomark _)) (av 7) an) sc_l_hangs.nd)
      (ss_cons (s_if (tcmp (ao_ne hu) (acl D_past_all hr (by decide) tk (aa_cons (aget hu1 (kof (aget hu1 (kv 0) qs)) (qv 5)) (aa_cons (av 3) aa_nil)) (by rfl)) (av 11) (nomark _))
        (ss_one (s_ret an))
        ss_nil)
      (ss_cons (s_set 3 (aif (tcmp ao_notN (av 11) an (nomark _)) (av 11) (ao ao_add (anew (alst (aa_cons (atup (aa_cons (av 5) (aa_cons (aget hu1 (kof (aget hu1 (kv 0) qs)) (qv 5)) aa_nil))) aa_nil))) (av 3))) sc_l_hangs.nd)
      (ss_one (s_set 4 (aif (tcmp ao_notN (av 11) an (nomark _)) (av 4) (ao ao_add (anew (alst (aa_cons (av 5) aa_nil))) (av 4))) sc_l_hangs.nd)))))))))
    (ss_one (s_ret (atpl (av 4) Tb.tuple (by rfl)))))))), fun EA xs S Q h hn => ?_⟩
  obtain ⟨N, W, pk, x, p, rfl, hh, G, hN, hm, hp, hk⟩ := h
  have z2 : 2 ≤ sizeLine := sz3
  have z1 : 1 ≤ sizeLine := sz3
  have sz := sizeLine_eq
  have few := G.few
  have il := idx_le (x := x) (l := W.words)
  refine ⟨_, l4_w, flat_words, rfl, idx x W.words, at_words hm, fun m h => no_words h, ?_⟩
  dsimp only []
  refine seqI ?_
  refine ⟨.dct pk, l4_p, paD p, hh.p.some hp, z2, z1, Nat.zero_le _, ?_⟩
  dsimp only []
  refine seqI ?_
  refine ⟨_, l4_w, ?_⟩
  show forA _ _ ((cutD (W.words.map .str) none (some ((idx x W.words : Nat) : Int))).reverse) _ _
  rw [cutD_take, ← List.map_take, ← List.map_reverse]
  have lT : (W.words.take (idx x W.words)).length ≤ 100 := by rw [List.length_take]; omega
  have mT : ∀ y ∈ (W.words.take (idx x W.words)).reverse, y ∈ W.words := fun y hy => List.mem_of_mem_take (List.mem_reverse.mp hy)
  have lR : (W.words.take (idx x W.words)).reverse.length ≤ 100 := by rw [List.length_reverse]; exact lT
  generalize hT : (W.words.take (idx x W.words)).reverse = T at *
  refine forA_inv D.str (fun r a => ∃ (kept : Rows) (found : List Str) (kd fd : List D) (r5 r6 r7 r8 r9 r10 r11 : Option AV), kd = kept.map rowD ∧ fd = found.map D.str ∧ (∀ e ∈ kept, PatOk N e.2 ∧ PyData.strOk e.1 = true) ∧ (∀ y ∈ r, y ∈ W.words) ∧ kept.length + r.length ≤ T.length + 1 ∧ found.length + r.length ≤ T.length ∧ hangR W.pat r kept found = hangR W.pat T [(x, p)] [] ∧
    a = ⟨[some (.im (worldD W pk)), some (.im (.str x)), some (.im (.int (idx x W.words : Nat))), some (.im (.lst kd)), some (.im (.lst fd)), r5, r6, r7, r8, r9, r10, r11], S⟩) ?_ ?_ T _ ⟨[(x, p)], [], _, _, none, none, none, none, none, none, none, rfl, rfl, fun e he => by rw [List.mem_singleton.mp he]; exact ⟨G.pat x p hp, (G.wok x hm).2.2⟩, mT, by simp; omega, by simp, rfl, rfl⟩
  · rintro o r a N' ⟨kept, found, _, _, r5, r6, r7, r8, r9, r10, r11, rfl, rfl, h1, h2, h3, h4, h5, rfl⟩ hN'
    have hom := h2 o List.mem_cons_self
    obtain ⟨q, hq⟩ := G.at hom
    have po := G.pat o q hq
    have wo := (G.wok o hom).2.2
    rw [List.length_cons] at h3 h4
    rw [hangR, hq] at h5
    simp only [] at h5
    refine ⟨.dct pk, l4_p, paD q, hh.p.some hq, Nat.zero_le _, ?_⟩
    dsimp only []
    refine seqI ?_
    show forA _ _ (kept.map rowD) _ _
    refine forA_inv rowD (fun r' a => ∃ (pp : Option (List Hk)) (mv : Rows) (pd : D) (md : List D) (r8 r9 r10 : Option AV), pd = optPa pp ∧ md = mv.map rowD ∧ (∀ e ∈ r', PatOk N e.2) ∧ (∀ p', pp = some p' → PatOk N p' ∧ pastR q kept = (pastR p' r').map (mv ++ ·)) ∧ (pp = none → pastR q kept = none) ∧ mv.length + r'.length ≤ kept.length ∧
      a = ⟨[some (.im (worldD W pk)), some (.im (.str x)), some (.im (.int (idx x W.words : Nat))), some (.im (.lst (kept.map rowD))), some (.im (.lst (found.map D.str))), some (.im (.str o)), some (.im pd), some (.im (.lst md)), r8, r9, r10, r11], S⟩) ?_ ?_ kept _ ⟨some q, [], _, _, r8, r9, r10, rfl, rfl, fun e he => (h1 e he).1, fun p' e => by cases e; exact ⟨po, by cases pastR q kept <;> simp⟩, fun e => (by cases e), by simp, rfl⟩
    · rintro ⟨y, inn⟩ r' a N2 ⟨pp, mv, _, _, r8, r9, r10, rfl, rfl, g1, g2, g3, g4, rfl⟩ hN2
      have pi : PatOk N inn := g1 (y, inn) List.mem_cons_self
      rw [List.length_cons] at g4
      cases pp with
      | none =>
        have g3 := g3 rfl
        refine ⟨Nat.zero_le _, by rw [List.length_map]; show mv.length + 0 ≤ _; omega, hN2 _ ⟨none, mv, _, _, _, _, _, rfl, ?_, fun e he => g1 e (List.mem_cons_of_mem _ he), fun p' e => (by cases e), fun _ => g3, by omega, rfl⟩⟩
        rw [List.append_nil]
      | some p' =>
        obtain ⟨g5, g6⟩ := g2 p' rfl
        rw [pastR] at g6
        refine ⟨rfl, p', inn, rfl, g5.sz (by omega), pi.sz (by omega), ?_⟩
        by_cases t : touchB inn (back p') = true
        · rw [if_pos t] at g6
          refine .inl ⟨t, Nat.zero_le _, by rw [List.length_map]; show mv.length + 0 ≤ _; omega, hN2 _ ⟨none, mv, _, _, _, _, _, rfl, ?_, fun e he => g1 e (List.mem_cons_of_mem _ he), fun p' e => (by cases e), fun _ => g6, by omega, rfl⟩⟩
          rw [List.append_nil]
        · rw [if_neg t] at g6
          have t : touchB inn (back p') = false := by simpa using t
          obtain ⟨t2, va, vb⟩ := past_step g5 pi t
          refine .inr ⟨t, t2, ?_⟩
          refine ⟨paD (ovL p' (ovL inn (back p'))), rfl, paD (ovL inn (back p')), rfl, z2, z1, by rw [List.length_map]; show mv.length + 1 ≤ _; omega, hN2 _ ⟨some (ovL p' (ovL inn (back p'))), mv ++ [(y, ovL inn (back p'))], _, _, _, _, _, rfl, ?_, fun e he => g1 e (List.mem_cons_of_mem _ he), fun p2 e => ?_, fun e => (by cases e), by simp; omega, rfl⟩⟩
          · rw [List.map_append]; rfl
          · cases e
            refine ⟨vb, ?_⟩
            rw [g6]
            cases pastR (ovL p' (ovL inn (back p'))) r' <;> simp
    · rintro a ⟨pp, mv, _, _, r8, r9, r10, rfl, rfl, g1, g2, g3, g4, rfl⟩
      have hd : dueD pp mv = optRows (pastR q kept) := by
        cases pp with
        | none => rw [g3 rfl]; rfl
        | some p' =>
          have := (g2 p' rfl).2
          rw [pastR] at this
          rw [this]
          simp only [Option.map_some, List.append_nil]
          rfl
      have cr : cmp 9 (optRows (pastR q kept)) = true := by
        cases e : pastR q kept with
        | none => rfl
        | some m =>
          obtain ⟨d1, d2, d3⟩ := past_ok po (fun e he => (h1 e he).1) e
          refine cmp_rows fun e he => ⟨?_, (d1 e he).o⟩
          have : e.1 ∈ m.map (·.1) := List.mem_map_of_mem he
          rw [d3] at this
          obtain ⟨e2, h3, h4⟩ := List.mem_map.mp this
          rw [← h4]
          exact (h1 e2 h3).2
      have key : ∀ r11 : D, r11 = optRows (pastR q kept) → sSeq (sIf (tB (fOp FNe (fCall 2 fPast (fCons (fGet (kOf (fGet (kVar 0) (qC (.str "patches")))) (qVar 5)) (fCons (fVar 3) fNil))) (fVar 11))) (sRet (fC .non)) sNx)
          (sSeq (sSet 3 (vIf (tB (fOp FNotN (fVar 11) (fC .non))) (fVar 11) (fOp FAdd (fNew (nLst (fCons (fTup (fCons (fVar 5) (fCons (fGet (kOf (fGet (kVar 0) (qC (.str "patches")))) (qVar 5)) fNil))) fNil))) (fVar 3))))
            (sSet 4 (vIf (tB (fOp FNotN (fVar 11) (fC .non))) (fVar 4) (fOp FAdd (fNew (nLst (fCons (fVar 5) fNil))) (fVar 4)))))
          { nx := N', rt := (endA EA Q).rt, ex := (endA EA Q).ex, bk := sRet (fTpl (fVar 4)) (endA EA Q), ct := N' } (Ab.A.mk [some (.im (worldD W pk)), some (.im (.str x)), some (.im (.int (idx x W.words : Nat))), some (.im (.lst (kept.map rowD))), some (.im (.lst (found.map D.str))), some (.im (.str o)), some (.im (optPa pp)), some (.im (.lst (mv.map rowD))), r8, r9, r10, some (.im r11)] S) := by
        rintro _ rfl
        refine ⟨.dct pk, l4_p, paD q, hh.p.some hq, rfl, N, q, kept, rfl, po, fun e he => (h1 e he).1, by omega, by omega, ?_⟩
        refine ⟨cr, cr, ?_⟩
        show if (!same (optRows (pastR q kept)) (optRows (pastR q kept))) = true then _ else _
        rw [same_self]
        cases e : pastR q kept with
        | none =>
          rw [e] at h5
          simp only [] at h5
          refine ⟨.dct pk, l4_p, paD q, hh.p.some hq, z2, z1, by rw [List.length_map]; show 1 + kept.length ≤ _; omega, z1, by rw [List.length_map]; show 1 + found.length ≤ _; omega, hN' _ ⟨(o, q) :: kept, o :: found, _, _, _, _, _, _, _, _, _, by rfl, by rfl, fun e he => ?_, fun y hy => h2 y (List.mem_cons_of_mem _ hy), by simp; omega, by simp; omega, h5, rfl⟩⟩
          rcases List.mem_cons.mp he with z | z
          · rw [z]; exact ⟨po, wo⟩
          · exact h1 e z
        | some m =>
          rw [e] at h5
          simp only [] at h5
          obtain ⟨d1, d2, d3⟩ := past_ok po (fun e he => (h1 e he).1) e
          refine hN' _ ⟨m, found, _, _, _, _, _, _, _, _, _, rfl, rfl, fun e he => ⟨d1 e he, ?_⟩, fun y hy => h2 y (List.mem_cons_of_mem _ hy), by omega, by omega, h5, rfl⟩
          have : e.1 ∈ m.map (·.1) := List.mem_map_of_mem he
          rw [d3] at this
          obtain ⟨e2, h3, h4⟩ := List.mem_map.mp this
          rw [← h4]
          exact (h1 e2 h3).2
      cases pp with
      | none => exact key _ hd
      | some p' => exact key _ hd
  · rintro a ⟨kept, found, _, _, r5, r6, r7, r8, r9, r10, r11, rfl, rfl, h1, h2, h3, h4, h5, rfl⟩
    rw [hangR] at h5
    rw [← h5] at hk
    exact hk
end
end Ab


namespace Ab
open PySem L2
def fAppliedX : FD := fun _ xs S P => ∃ W ks, xs = [.stk] ∧ S = some (stk W ks) ∧ P (.xt ((W.words.take W.many).map .str)) S
def fCannot : FD := fun _ xs S P => ∃ N W ks x, xs = [.stk, .im (.str x)] ∧ S = some (stk W ks) ∧ Held W ks ∧ Good N W ∧ N ≤ 100 ∧ x.length ≤ 1000 ∧ (isWord x = false → P (.str x) S) ∧ (isWord x = true → (x ∉ W.words → P (.str "none") S) ∧ (x ∈ W.words → P (.bl (isOk (swapW W x))) S))
section
variable {P : Program} {w : World} {K : PySem.W.Frag} {mg : Str → Option Value} {base : Heap} {Z : Cl}
theorem ok_appliedX {f : Addr} {fd : FuncData} (Fn : Fun K "applied" "Stack.applied" s_applied f fd) (Tb : Blt mg) (Ts : StkTxt K Z) : FnOk P w K mg base (L2.CX P w) 1 f fd ["self"] (spA Z 1 fAppliedX) := by
  refine aok Fn sc_applied rfl fun cdv A outer s H E hr => ?_
  refine ⟨_, (ss_one (s_ret (atplX (asl (aat 0 .words Ts) ono (oso (aat 0 .many Ts))) Tb.tuple (by rfl)))), fun EA xs S Q h hn => ?_⟩
  obtain ⟨W, ks, rfl, rfl, h⟩ := h
  show Q (.xt (cutD (W.words.map .str) none (some (W.many : Int)))) _
  rw [cutD_take, ← List.map_take]
  exact h
abbrev s_l_cannot : Stmt := top 43
abbrev n_l_cannot : List Str := ["stack", "word", "error"]
theorem sc_l_cannot : FnScope n_l_cannot ["stack", "word"] (defScope s_l_cannot) := ⟨rfl, rfl, rfl, by decide +kernel, rfl, by decide +kernel, by decide +kernel⟩
theorem ok_l_cannot {f : Addr} {fd : FuncData} (Fn : Fun K "_law_cannot" "_law_cannot" s_l_cannot f fd) (Tb : Blt mg) (Te : Errs P K mg Z) (Ts : StkTxt K Z) (Ca : Catch K Z) (M_can_swap : Mtd P w K mg base Z 4 "can_swap" 2 fCanS) : FnOk P w K mg base (L2.CX P w) 5 f fd ["stack", "word"] (spA Z 2 fCannot) := by
  obtain ⟨qu1, f1, T1⟩ := Te.rf
  obtain ⟨qu2, f2, T2⟩ := Te.nm
  obtain ⟨qu3, f3, T3⟩ := Te.cf
  refine aok0 Fn sc_l_cannot rfl fun cdv A outer s H E hr => ?_
  have hp := passes_of (X := cxOf (L2.CX P w) P w K mg base n_l_cannot "_law_cannot" (defScope s_l_cannot) f cdv A outer s H E) rfl
  have tk := takes_of (X := cxOf (L2.CX P w) P w K mg base n_l_cannot "_law_cannot" (defScope s_l_cannot) f cdv A outer s H E) rfl rfl rfl rfl
  refine ⟨_, (s_tryCan 2 Ca T2 rfl rfl sc_l_cannot.nd tk ⟨rfl, by decide, .inl Te.noG⟩ ⟨rfl, by decide, .inl T2.gC⟩ rfl (Or.inl rfl) (by decide) (by decide) rfl (fun W pn xe tk hp => (ss_one (s_ret (ams 0 Ts M_can_swap hr (by decide) tk (aa_cons (av 1) aa_nil)))))), fun EA xs S Q h hn => ?_⟩
  obtain ⟨N, W, ks, x, rfl, rfl, hh, G, hN, hx, k1, k2⟩ := h
  exact ⟨rfl, N, W, ks, x, rfl, rfl, hh, G, hN, hx, fun e ρ => k1 e, fun e => ⟨fun z ρ => (k2 e).1 z, fun z => (k2 e).2 z⟩⟩
end
end Ab


namespace Ab
open PySem L2
def fDo : FD := fun _ xs S P => ∃ N W ks kind x p, xs = [.stk, .im (deedD kind x p)] ∧ S = some (stk W ks) ∧ Held W ks ∧ Good N W ∧ N ≤ 90 ∧ kind ∈ kinds ∧ WordOk x ∧ PatOk (N + 4) p ∧ grow p ≤ 4 ∧ (∀ d, dueW W kind x p = .tup d → P d S) ∧ ∀ W', dueW W kind x p = .ok W' → ∀ ks', Held W' ks' → P .non (some (stk W' ks'))
theorem at_last {α : Type} {l : List α} {x : α} {n : Nat} (hl : l.length = n + 1) (h : l[n]? = some x) : atI l (-1) = some x := by
  unfold atI ixN
  rw [if_neg (by omega), if_pos (by omega)]
  show l[(-1 + (l.length : Int)).toNat]? = some x
  rw [show (-1 + (l.length : Int)).toNat = n by omega]
  exact h
section
variable {P : Program} {w : World} {K : PySem.W.Frag} {mg : Str → Option Value} {base : Heap} {Z : Cl}
abbrev s_l_do : Stmt := top 40
abbrev n_l_do : List Str := ["stack", "deed", "on", "off", "many", "error"]
theorem sc_l_do : FnScope n_l_do ["stack", "deed"] (defScope s_l_do) := ⟨rfl, rfl, rfl, by decide +kernel, rfl, by decide +kernel, by decide +kernel⟩
theorem ok_l_do {f : Addr} {fd : FuncData} (Fn : Fun K "_law_do" "_law_do" s_l_do f fd) (Tb : Blt mg) (Te : Errs P K mg Z) (Ts : StkTxt K Z) (Ca : Catch K Z) (M_appliedX : Mtd P w K mg base Z 1 "applied" 1 fAppliedX) (M_waiting : Mtd P w K mg base Z 1 "waiting" 1 fWaitingS) (M_pop : Mtd P w K mg base Z 1 "pop" 1 fPop) (M_push : Mtd P w K mg base Z 3 "push" 1 fPush) (M_rebase : Mtd P w K mg base Z 3 "rebase" 2 fRebS) (M_add : Mtd P w K mg base Z 3 "add" 3 fAddS) (M_swap : Mtd P w K mg base Z 4 "swap" 2 fSwapS) (M_float_off : Mtd P w K mg base Z 5 "float_off" 2 fFloatS) (M_sink : Mtd P w K mg base Z 5 "sink" 2 fSinkS) (M_fold : Mtd P w K mg base Z 4 "fold" 2 fFoldS) : FnOk P w K mg base (L2.CX P w) 6 f fd ["stack", "deed"] (spA Z 2 fDo) := by
  obtain ⟨qu1, f1, T1⟩ := Te.rf
  obtain ⟨qu2, f2, T2⟩ := Te.nm
  obtain ⟨qu3, f3, T3⟩ := Te.cf
  refine aok0 Fn sc_l_do rfl fun cdv A outer s H E hr => ?_
  have hp := passes_of (X := cxOf (L2.CX P w) P w K mg base n_l_do "_law_do" (defScope s_l_do) f cdv A outer s H E) rfl
  have tk := takes_of (X := cxOf (L2.CX P w) P w K mg base n_l_do "_law_do" (defScope s_l_do) f cdv A outer s H E) rfl rfl rfl rfl
  have hu := hu64 hr
  refine ⟨_, (s_tryDo 5 Ca T1 T2 rfl rfl sc_l_do.nd tk ⟨rfl, by decide, .inl Te.noG⟩ ⟨rfl, by decide, .inl T1.gC⟩ ⟨rfl, by decide, .inl T3.gC⟩ ⟨rfl, by decide, .inl T2.gC⟩ rfl (Or.inl rfl) (by decide) (by decide) rfl (fun W pn xe tk hp => (ss_cons (s_set 2 (ams0 0 Ts M_appliedX hr (by decide) tk) sc_l_do.nd)
    (ss_cons (s_set 3 (ams0 0 Ts M_waiting hr (by decide) tk) sc_l_do.nd)
    (ss_one (s_if (tcmp (ao_eq hu) (aix (av 1) ai) as (nomark _))
      (ss_one (s_if (tcmp (ao_ne hu) (ams0 0 Ts M_pop hr (by decide) tk) (aixX (av 2) (aneg ai)) (nomark _))
        (ss_one (s_ret (atup (aa_cons as aa_nil))))
        ss_nil))
      (ss_one (s_if (tcmp (ao_eq hu) (aix (av 1) ai) as (nomark _))
        (ss_one (s_if (tcmp (ao_ne hu) (ams0 0 Ts M_push hr (by decide) tk) (aix (av 3) ai) (nomark _))
          (ss_one (s_ret (atup (aa_cons as aa_nil))))
          ss_nil))
        (ss_one (s_if (tcmp (ao_eq hu) (aix (av 1) ai) as (nomark _))
          (ss_one (s_expr (ams 0 Ts M_rebase hr (by decide) tk (aa_cons (aix (av 1) ai) aa_nil))))
          (ss_one (s_if (tcmp (ao_eq hu) (aix (av 1) ai) as (nomark _))
            (ss_one (s_expr (ams 0 Ts M_add hr (by decide) tk (aa_cons (aix (av 1) ai) (aa_cons (aix (av 1) ai) aa_nil)))))
            (ss_one (s_if (tcmp (ao_eq hu) (aix (av 1) ai) as (nomark _))
              (ss_one (s_expr (ams 0 Ts M_swap hr (by decide) tk (aa_cons (aix (av 1) ai) aa_nil))))
              (ss_one (s_if (tcmp (ao_eq hu) (aix (av 1) ai) as (nomark _))
                (ss_one (s_expr (ams 0 Ts M_float_off hr (by decide) tk (aa_cons (aix (av 1) ai) aa_nil))))
                (ss_one (s_if (tcmp (ao_eq hu) (aix (av 1) ai) as (nomark _))
                  (ss_cons (s_set 4 (ams 0 Ts M_sink hr (by decide) tk (aa_cons (aix (av 1) ai) aa_nil)) sc_l_do.nd)
                  (ss_one (s_if (tcmp (ao_ne hu) (av 4) (aif (tcmp ao_inX (aix (av 1) ai) (av 2) (by rfl)) (ao ao_sub (aidxX (av 2) (aix (av 1) ai)) (aidxX (ams0 0 Ts M_appliedX hr (by decide) tk) (aix (av 1) ai))) ai) (nomark _))
                    (ss_one (s_ret (atup (aa_cons as aa_nil))))
                    ss_nil)))
                  (ss_one (s_expr (ams 0 Ts M_fold hr (by decide) tk (aa_cons (aix (av 1) ai) aa_nil)))))))))))))))))))))), fun EA xs S Q h hn => ?_⟩
  obtain ⟨N, W, ks, kind, x, p, rfl, rfl, hh, G, hN, hk, wx, hp, hgr, k1, k2⟩ := h
  have z2 : 2 ≤ sizeLine := sz3
  have z1 : 1 ≤ sizeLine := sz3
  have sz := sizeLine_eq
  have sk := kinds_ok hk
  have lw := many_len G (by omega)
  have few := G.few
  have lk := hh.l
  have hmany := G.many
  obtain ⟨m, hm, hr2, om, lm⟩ := G.lines (by omega)
  have hlw := linesW_eq hm
  obtain ⟨w1, w2, w3⟩ := wx
  unfold dueW at k1 k2
  refine ⟨rfl, W, ks, rfl, rfl, ?_⟩
  refine ⟨rfl, W, ks, rfl, rfl, ?_⟩
  dsimp only []
  show sIf _ _ _ _ (Ab.A.mk [some .stk, some (.im (deedD kind x p)), some (.im (.xt ((W.words.take W.many).map .str))), some (.im (.tup ((W.words.drop W.many).map .str))), none, none] (some (stk W ks)))
  refine rd_kind rfl sk (by decide +kernel) (fun e => ?_) (fun e => ?_)
  · rw [if_pos e] at k1 k2
    refine ⟨rfl, W, ks, rfl, rfl, hmany, fun e1 ρ => ?_, fun n y e1 e2 => ?_⟩
    · rw [if_pos e1] at k1
      exact k1 _ rfl
    · rw [if_neg (by omega)] at k2
      have wy := (G.wok y (List.mem_of_getElem? e2)).2.2
      refine ⟨.str y, at_last (n := n) (by rw [List.length_map, List.length_take]; omega) ?_, wy, wy, ?_⟩
      · rw [List.getElem?_map, List.getElem?_take, if_pos (by omega), e2]; rfl
      · show if (!same (.str y) (.str y)) = true then _ else _
        rw [same_self]
        have := k2 _ rfl ks ⟨hh.p, hh.l, hh.n⟩
        rw [e1] at this
        exact this
  rw [if_neg e] at k1 k2
  refine rd_kind rfl sk (by decide +kernel) (fun e => ?_) (fun e => ?_)
  · rw [if_pos e] at k1 k2
    refine ⟨rfl, W, ks, m, rfl, rfl, hh.p, lw, hr2, hmany, fun e1 ρ => ?_, fun y hy => ?_⟩
    · rw [if_pos e1] at k1
      exact k1 _ rfl
    · have hlt := (List.getElem?_eq_some_iff.mp hy).1
      have hmem := List.mem_of_getElem? hy
      obtain ⟨q, hq⟩ := G.at hmem
      have pq := G.pat _ q hq
      have wy := (G.wok y hmem).2.2
      rw [if_neg (by omega), hy] at k1 k2
      simp only [Option.bind_some, hq, hlw] at k1 k2
      refine ⟨q, hq, om, pq.fine, pq.short (by omega) (by omega), fun en ρ => ?_, fun n en => ?_⟩
      · rw [putOn_app pq.v] at en
        rw [en] at k1
        exact k1 _ rfl
      · rw [putOn_app pq.v] at en
        rw [en] at k2
        refine ⟨.str y, ?_, wy, wy, ?_⟩
        · show atI ((W.words.drop W.many).map D.str) ((0 : Nat) : Int) = _
          exact nth_words (by rw [List.getElem?_drop]; exact hy)
        · show if (!same (.str y) (.str y)) = true then _ else _
          rw [same_self]
          exact k2 _ rfl ks ⟨hh.p, hh.l, hh.n⟩
  rw [if_neg e] at k1 k2
  refine rd_kind rfl sk (by decide +kernel) (fun e => ?_) (fun e => ?_)
  · rw [if_pos e] at k1 k2
    refine ⟨paD p, at2, rfl, N, N + 4, W, ks, p, rfl, rfl, hh, G, by omega, hp, by omega, fun en ρ => ?_, fun b hb => ⟨fun y hy ρ => ?_, fun g hg ks' hks => ?_⟩⟩
    · rw [en] at k1
      exact k1 _ rfl
    · rw [hb] at k1
      simp only [hy] at k1
      exact k1 _ rfl
    · rw [hb] at k2
      simp only [hg] at k2
      exact k2 _ rfl ks' hks
  rw [if_neg e] at k1 k2
  refine rd_kind rfl sk (by decide +kernel) (fun e => ?_) (fun e => ?_)
  · rw [if_pos e] at k1 k2
    have hgc := hp.g
    have hcc := hp.c
    refine ⟨.str x, at1, paD p, at2, rfl, W, ks, x, p, m, rfl, rfl, hh.p, by omega, by omega, hr2, by omega, w1, hp.fine, om, hp.short (by omega) (by omega), by omega, fun e1 ρ => ?_, fun e1 e2 => ⟨fun en ρ => ?_, fun n en => ?_⟩⟩
    · rcases e1 with e1 | e1
      · rw [if_pos ((G.key x).mp e1)] at k1
        exact k1 _ rfl
      · rw [hp.v] at e1; cases e1
    · have hx : ¬ x ∈ W.words := fun z => by obtain ⟨q, hq⟩ := G.at z; rw [e1] at hq; cases hq
      rw [if_neg hx, hlw] at k1
      rw [putOn_app hp.v] at en
      rw [en] at k1
      exact k1 _ rfl
    · have hx : ¬ x ∈ W.words := fun z => by obtain ⟨q, hq⟩ := G.at z; rw [e1] at hq; cases hq
      rw [if_neg hx, hlw] at k2
      rw [putOn_app hp.v] at en
      rw [en] at k2
      refine k2 _ rfl _ ⟨hh.p.set x p, ?_, nd_put hh.n nd_pa⟩
      have := putD_len (ks := ks) (k := x) (d := paD p)
      have l1 : (W.words.take W.many).length + (W.words.drop W.many).length = W.words.length := by rw [← List.length_append, List.take_append_drop]
      show _ ≤ (W.words.take W.many ++ [x] ++ W.words.drop W.many).length
      rw [List.length_append, List.length_append, List.length_singleton]
      omega
  rw [if_neg e] at k1 k2
  have non : ∀ {R : Prop}, x ∉ W.words → (x ∉ W.words → R) → R := fun h k => k h
  refine rd_kind rfl sk (by decide +kernel) (fun e => ?_) (fun e => ?_)
  · refine ⟨.str x, at1, rfl, N, W, ks, x, rfl, rfl, hh, G, by omega, by omega, fun z => (by rw [w1] at z; cases z), fun _ => ?_⟩
    by_cases hx : x ∈ W.words
    · rw [if_neg (fun z => z hx), if_pos e] at k1 k2
      exact ⟨fun z ρ => (by rw [z] at k1; exact k1 _ rfl), fun z ρ => (by rw [z] at k1; exact k1 _ rfl), fun W' z ks' hks => (by rw [z] at k2; exact k2 _ rfl ks' hks)⟩
    · rw [if_pos hx] at k1
      have := (no_of G hx).1
      exact ⟨fun z ρ => k1 _ rfl, fun z => (by rw [this] at z; cases z), fun W' z => (by rw [this] at z; cases z)⟩
  have ne1 := e
  refine rd_kind rfl sk (by decide +kernel) (fun e => ?_) (fun e => ?_)
  · refine ⟨.str x, at1, rfl, N, W, ks, x, rfl, rfl, hh, G, by omega, by omega, w1, fun hx ρ => ?_, fun hx => ?_⟩
    · rw [if_pos hx] at k1
      exact k1 _ rfl
    · rw [if_neg (fun z => z hx), if_neg ne1, if_pos e] at k1 k2
      exact ⟨fun z ρ => (by rw [z] at k1; exact k1 _ rfl), fun W' z ks' hks => (by rw [z] at k2; exact k2 _ rfl ks' hks)⟩
  have ne2 := e
  refine rd_kind rfl sk (by decide +kernel) (fun e => ?_) (fun e => ?_)
  · refine ⟨.str x, at1, rfl, N, W, ks, x, rfl, rfl, hh, G, by omega, by omega, w1, fun hx ρ => ?_, fun hx ks' hks => ?_⟩
    · rw [if_pos hx] at k1
      exact k1 _ rfl
    · rw [if_neg (fun z => z hx), if_neg ne1, if_neg ne2, if_pos e] at k2
      have k3 := k2 _ rfl ks' hks
      obtain ⟨s1, s2, s3, s4, s5, s6⟩ := sink_ok (n := idx x W.words) (x := x) G
      generalize hR : sinkW (idx x W.words) W x = R at k3 s1 s2 s3 s4 s5 s6 hks
      have fin : ∀ i : Int, i = (R.2 : Nat) → (if (!same (.int (R.2 : Nat)) (.int i)) = true then False else Q .non (some (stk R.1 ks'))) := fun i hi => by
        rw [hi, same_self]; exact k3
      have m1 := G.many
      have m2 := s1.many
      have ix := idx_lt.mpr hx
      have hx2 : x ∈ R.1.words := (s5 x).mpr hx
      refine ⟨.str x, at1, rfl, flat_words, ?_⟩
      show if inD (.str x) ((W.words.take W.many).map D.str) = true then _ else _
      rw [inD_words]
      by_cases hin : x ∈ W.words.take W.many
      · rw [decide_eq_true hin]
        have i1 := idx_lt.mpr hin
        rw [List.length_take] at i1
        have i2 : idx x W.words < W.many := by
          rcases Nat.lt_or_ge (idx x W.words) W.many with h | h
          · exact h
          · have h3 := idx_at hin
            have h4 : W.words[idx x (W.words.take W.many)]? = some x := by
              rw [List.getElem?_take, if_pos (by omega)] at h3; exact h3
            exact absurd h4 (idx_no (by omega))
        have e1 := idx_take i2 hx
        have e2 : idx x (R.1.words.take R.1.many) = idx x R.1.words := idx_take (by omega) hx2
        have hin2 : x ∈ R.1.words.take R.1.many := by
          have := idx_at hx2
          exact List.mem_of_getElem? (by rw [List.getElem?_take, if_pos (show idx x R.1.words < R.1.many by omega)]; exact this)
        refine ⟨.str x, at1, W.words.take W.many, x, idx x (W.words.take W.many), rfl, rfl, idx_at hin, fun m h => idx_no h, rfl, R.1, ks', rfl, rfl, .str x, at1, R.1.words.take R.1.many, x, idx x (R.1.words.take R.1.many), rfl, rfl, idx_at hin2, fun m h => idx_no h, rfl, rfl, ?_⟩
        have := fin ((idx x (W.words.take W.many) : Nat) - (idx x (R.1.words.take R.1.many) : Nat)) (by omega)
        revert this
        show (if (!same (.int (R.2 : Nat)) (.int ((idx x (W.words.take W.many) : Nat) - (idx x (R.1.words.take R.1.many) : Nat)))) = true then _ else _) → (if (!same (.int (R.2 : Nat)) (.int ((idx x (W.words.take W.many) : Nat) - (idx x (R.1.words.take R.1.many) : Nat)))) = true then _ else _)
        split
        · exact fun z => z.elim
        · exact fun z => z
      · rw [decide_eq_false hin]
        have i2 : W.many ≤ idx x W.words := by
          rcases Nat.lt_or_ge (idx x W.words) W.many with h | h
          · exact absurd (List.mem_of_getElem? (by rw [List.getElem?_take, if_pos h]; exact idx_at hx)) hin
          · exact h
        have e0 : R.2 = 0 := by rw [s6 i2]
        refine ⟨rfl, rfl, ?_⟩
        have := fin 0 (by omega)
        revert this
        show (if (!same (.int (R.2 : Nat)) (.int 0)) = true then _ else _) → (if (!same (.int (R.2 : Nat)) (.int 0)) = true then _ else _)
        split
        · exact fun z => z.elim
        · exact fun z => z
  have ne3 := e
  refine ⟨.str x, at1, rfl, N, W, ks, x, rfl, rfl, hh, G, by omega, by omega, w1, fun z ρ => ?_, fun W' z ks' hks => ?_⟩
  · by_cases hx : x ∈ W.words
    · rw [if_neg (fun z => z hx), if_neg ne1, if_neg ne2, if_neg ne3, z] at k1
      exact k1 _ rfl
    · rw [if_pos hx] at k1
      exact k1 _ rfl
  · by_cases hx : x ∈ W.words
    · rw [if_neg (fun z => z hx), if_neg ne1, if_neg ne2, if_neg ne3, z] at k2
      exact k2 _ rfl ks' hks
    · have h2 : ¬ idx x W.words < W.words.length := fun z => hx (idx_lt.mp z)
      unfold foldW at z; rw [if_pos (.inr (by omega))] at z; cases z
end
end Ab


namespace Ab
open PySem L2
def FEqB : F2 := fun x y P => match x, y with
  | .bl a, .bl b => P (.bl (decide (a = b)))
  | _, _ => False
theorem ao_eqB {X : Cx} : AOp X (compareOp .Eq) FEqB := by
  refine ⟨_, op_eq, fun H G x y dx dy P Q e hx hy h k => ?_⟩
  cases dx with
  | bl i => cases dy with
    | bl j =>
      have hx : x = .bl i := hx
      have hy : y = .bl j := hy
      subst hx; subst hy
      refine ⟨rfl, ?_⟩
      have := (k _ h).bl
      rw [show decide (V.bl i = V.bl j) = decide (i = j) by cases i <;> cases j <;> rfl]
      exact this
    | _ => exact h.elim
  | _ => exact h.elim
def fDoA : FD := fun _ xs S P => ∃ N W ks, xs = [.stk, .im (.tup [.str "swap", .str "A"])] ∧ S = some (stk W ks) ∧ Held W ks ∧ Good N W ∧ N ≤ 100 ∧ P (.tup [.str "name", .str "A"]) S
def badP : List Hk := [⟨0, [], []⟩]
def fDoP : FD := fun _ xs S P => ∃ N W ks, xs = [.stk, .im (deedD "add" "p9" badP)] ∧ S = some (stk W ks) ∧ Held W ks ∧ Good N W ∧ N ≤ 100 ∧ P (refD "p9") S
def fLooked : FD := fun _ xs S P => ∃ N W ks pk, xs = [.rng, .stk, .im (worldD W pk)] ∧ S = some (stk W ks) ∧ Held W ks ∧ Held W pk ∧ Good N W ∧ N ≤ 100 ∧ P (.bl true) S
theorem word_A : isWord "A" = false := by decide +kernel
theorem word_p9 : isWord "p9" = true := by decide +kernel
theorem okL_words {N : Nat} {W : Wd} (G : Good N W) {ws : List Str} (h : ∀ x ∈ ws, x ∈ W.words) : okL ws := fun x hx => (G.wok x (h x hx)).2.2
theorem hang_mem {f : Str → Option (List Hk)} : ∀ {r : List Str} {kept : Rows} {found : List Str}, ∀ y ∈ hangR f r kept found, y ∈ r ∨ y ∈ found
  | [], kept, found, y, h => .inr h
  | o :: r, kept, found, y, h => by
    rw [hangR] at h
    split at h
    · split at h
      · rcases hang_mem y h with z | z
        · exact .inl (List.mem_cons_of_mem _ z)
        · exact .inr z
      · rcases hang_mem y h with z | z
        · exact .inl (List.mem_cons_of_mem _ z)
        · rcases List.mem_cons.mp z with w | w
          · exact .inl (by rw [w]; exact List.mem_cons_self)
          · exact .inr w
    · exact .inr h
/-- x != x -/
theorem rd_ne {E : XA} {a a1 a2 : Ab.A} {P : Bool → Ab.A → Prop} {f g : FE} {d : D} (hf : ∀ Q : D → Ab.A → Prop, Q d a1 → f E a Q) (hg : ∀ Q : D → Ab.A → Prop, Q d a2 → g E a1 Q) (hc : cmp 9 d = true) (h : P false a2) : tB (fOp FNe f g) E a P := by
  unfold tB fOp
  refine hf _ (hg _ ⟨hc, hc, ?_⟩)
  show P (!same d d) a2
  rw [same_self]; exact h
section
variable {P : Program} {w : World} {K : PySem.W.Frag} {mg : Str → Option Value} {base : Heap} {Z : Cl}
abbrev s_l_doA : Stmt := top 40
abbrev n_l_doA : List Str := ["stack", "deed", "on", "off", "many", "error"]
theorem sc_l_doA : FnScope n_l_doA ["stack", "deed"] (defScope s_l_doA) := ⟨rfl, rfl, rfl, by decide +kernel, rfl, by decide +kernel, by decide +kernel⟩
theorem ok_l_doA {f : Addr} {fd : FuncData} (Fn : Fun K "_law_do" "_law_do" s_l_doA f fd) (Tb : Blt mg) (Te : Errs P K mg Z) (Ts : StkTxt K Z) (Ca : Catch K Z) (M_appliedX : Mtd P w K mg base Z 1 "applied" 1 fAppliedX) (M_waiting : Mtd P w K mg base Z 1 "waiting" 1 fWaitingS) (M_pop : Mtd P w K mg base Z 1 "pop" 1 fPop) (M_push : Mtd P w K mg base Z 3 "push" 1 fPush) (M_rebase : Mtd P w K mg base Z 3 "rebase" 2 fRebS) (M_add : Mtd P w K mg base Z 3 "add" 3 fAddS) (M_swap : Mtd P w K mg base Z 4 "swap" 2 fSwapS) (M_float_off : Mtd P w K mg base Z 5 "float_off" 2 fFloatS) (M_sink : Mtd P w K mg base Z 5 "sink" 2 fSinkS) (M_fold : Mtd P w K mg base Z 4 "fold" 2 fFoldS) : FnOk P w K mg base (L2.CX P w) 6 f fd ["stack", "deed"] (spA Z 2 fDoA) := by
  obtain ⟨qu1, f1, T1⟩ := Te.rf
  obtain ⟨qu2, f2, T2⟩ := Te.nm
  obtain ⟨qu3, f3, T3⟩ := Te.cf
  refine aok0 Fn sc_l_doA rfl fun cdv A outer s H E hr => ?_
  have hp := passes_of (X := cxOf (L2.CX P w) P w K mg base n_l_doA "_law_do" (defScope s_l_doA) f cdv A outer s H E) rfl
  have tk := takes_of (X := cxOf (L2.CX P w) P w K mg base n_l_doA "_law_do" (defScope s_l_doA) f cdv A outer s H E) rfl rfl rfl rfl
  have hu := hu64 hr
  refine ⟨_, (s_tryDo 5 Ca T1 T2 rfl rfl sc_l_doA.nd tk ⟨rfl, by decide, .inl Te.noG⟩ ⟨rfl, by decide, .inl T1.gC⟩ ⟨rfl, by decide, .inl T3.gC⟩ ⟨rfl, by decide, .inl T2.gC⟩ rfl (Or.inl rfl) (by decide) (by decide) rfl (fun W pn xe tk hp => (ss_cons (s_set 2 (ams0 0 Ts M_appliedX hr (by decide) tk) sc_l_doA.nd)
    (ss_cons (s_set 3 (ams0 0 Ts M_waiting hr (by decide) tk) sc_l_doA.nd)
    (ss_one (s_if (tcmp (ao_eq hu) (aix (av 1) ai) as (nomark _))
      (ss_one (s_if (tcmp (ao_ne hu) (ams0 0 Ts M_pop hr (by decide) tk) (aixX (av 2) (aneg ai)) (nomark _))
        (ss_one (s_ret (atup (aa_cons as aa_nil))))
        ss_nil))
      (ss_one (s_if (tcmp (ao_eq hu) (aix (av 1) ai) as (nomark _))
        (ss_one (s_if (tcmp (ao_ne hu) (ams0 0 Ts M_push hr (by decide) tk) (aix (av 3) ai) (nomark _))
          (ss_one (s_ret (atup (aa_cons as aa_nil))))
          ss_nil))
        (ss_one (s_if (tcmp (ao_eq hu) (aix (av 1) ai) as (nomark _))
          (ss_one (s_expr (ams 0 Ts M_rebase hr (by decide) tk (aa_cons (aix (av 1) ai) aa_nil))))
          (ss_one (s_if (tcmp (ao_eq hu) (aix (av 1) ai) as (nomark _))
            (ss_one (s_expr (ams 0 Ts M_add hr (by decide) tk (aa_cons (aix (av 1) ai) (aa_cons (aix (av 1) ai) aa_nil)))))
            (ss_one (s_if (tcmp (ao_eq hu) (aix (av 1) ai) as (nomark _))
              (ss_one (s_expr (ams 0 Ts M_swap hr (by decide) tk (aa_cons (aix (av 1) ai) aa_nil))))
              (ss_one (s_if (tcmp (ao_eq hu) (aix (av 1) ai) as (nomark _))
                (ss_one (s_expr (ams 0 Ts M_float_off hr (by decide) tk (aa_cons (aix (av 1) ai) aa_nil))))
                (ss_one (s_if (tcmp (ao_eq hu) (aix (av 1) ai) as (nomark _))
                  (ss_cons (s_set 4 (ams 0 Ts M_sink hr (by decide) tk (aa_cons (aix (av 1) ai) aa_nil)) sc_l_doA.nd)
                  (ss_one (s_if (tcmp (ao_ne hu) (av 4) (aif (tcmp ao_inX (aix (av 1) ai) (av 2) (by rfl)) (ao ao_sub (aidxX (av 2) (aix (av 1) ai)) (aidxX (ams0 0 Ts M_appliedX hr (by decide) tk) (aix (av 1) ai))) ai) (nomark _))
                    (ss_one (s_ret (atup (aa_cons as aa_nil))))
                    ss_nil)))
                  (ss_one (s_expr (ams 0 Ts M_fold hr (by decide) tk (aa_cons (aix (av 1) ai) aa_nil)))))))))))))))))))))), fun EA xs S Q h hn => ?_⟩
  obtain ⟨N, W, ks, rfl, rfl, hh, G, hN, k1⟩ := h
  have sk : PyData.strOk ("swap" : Str) = true := by decide +kernel
  refine ⟨rfl, W, ks, rfl, rfl, ?_⟩
  refine ⟨rfl, W, ks, rfl, rfl, ?_⟩
  dsimp only []
  show sIf _ _ _ _ (Ab.A.mk [some .stk, some (.im (.tup [.str "swap", .str "A"])), some (.im (.xt ((W.words.take W.many).map .str))), some (.im (.tup ((W.words.drop W.many).map .str))), none, none] (some (stk W ks)))
  refine rd_kind rfl sk (by decide +kernel) (fun e => absurd e (by decide +kernel)) (fun e => ?_)
  refine rd_kind rfl sk (by decide +kernel) (fun e => absurd e (by decide +kernel)) (fun e => ?_)
  refine rd_kind rfl sk (by decide +kernel) (fun e => absurd e (by decide +kernel)) (fun e => ?_)
  refine rd_kind rfl sk (by decide +kernel) (fun e => absurd e (by decide +kernel)) (fun e => ?_)
  refine rd_kind rfl sk (by decide +kernel) (fun e => ?_) (fun e => absurd rfl e)
  exact ⟨.str "A", at1, rfl, N, W, ks, "A", rfl, rfl, hh, G, hN, by decide, fun _ ρ => k1, fun z => (by rw [word_A] at z; cases z)⟩
abbrev s_l_doP : Stmt := top 40
abbrev n_l_doP : List Str := ["stack", "deed", "on", "off", "many", "error"]
theorem sc_l_doP : FnScope n_l_doP ["stack", "deed"] (defScope s_l_doP) := ⟨rfl, rfl, rfl, by decide +kernel, rfl, by decide +kernel, by decide +kernel⟩
theorem ok_l_doP {f : Addr} {fd : FuncData} (Fn : Fun K "_law_do" "_law_do" s_l_doP f fd) (Tb : Blt mg) (Te : Errs P K mg Z) (Ts : StkTxt K Z) (Ca : Catch K Z) (M_appliedX : Mtd P w K mg base Z 1 "applied" 1 fAppliedX) (M_waiting : Mtd P w K mg base Z 1 "waiting" 1 fWaitingS) (M_pop : Mtd P w K mg base Z 1 "pop" 1 fPop) (M_push : Mtd P w K mg base Z 3 "push" 1 fPush) (M_rebase : Mtd P w K mg base Z 3 "rebase" 2 fRebS) (M_add : Mtd P w K mg base Z 3 "add" 3 fAddS) (M_swap : Mtd P w K mg base Z 4 "swap" 2 fSwapS) (M_float_off : Mtd P w K mg base Z 5 "float_off" 2 fFloatS) (M_sink : Mtd P w K mg base Z 5 "sink" 2 fSinkS) (M_fold : Mtd P w K mg base Z 4 "fold" 2 fFoldS) : FnOk P w K mg base (L2.CX P w) 6 f fd ["stack", "deed"] (spA Z 2 fDoP) := by
  obtain ⟨qu1, f1, T1⟩ := Te.rf
  obtain ⟨qu2, f2, T2⟩ := Te.nm
  obtain ⟨qu3, f3, T3⟩ := Te.cf
  refine aok0 Fn sc_l_doP rfl fun cdv A outer s H E hr => ?_
  have hp := passes_of (X := cxOf (L2.CX P w) P w K mg base n_l_doP "_law_do" (defScope s_l_doP) f cdv A outer s H E) rfl
  have tk := takes_of (X := cxOf (L2.CX P w) P w K mg base n_l_doP "_law_do" (defScope s_l_doP) f cdv A outer s H E) rfl rfl rfl rfl
  have hu := hu64 hr
  refine ⟨_, (s_tryDo 5 Ca T1 T2 rfl rfl sc_l_doP.nd tk ⟨rfl, by decide, .inl Te.noG⟩ ⟨rfl, by decide, .inl T1.gC⟩ ⟨rfl, by decide, .inl T3.gC⟩ ⟨rfl, by decide, .inl T2.gC⟩ rfl (Or.inl rfl) (by decide) (by decide) rfl (fun W pn xe tk hp => (ss_cons (s_set 2 (ams0 0 Ts M_appliedX hr (by decide) tk) sc_l_doP.nd)
    (ss_cons (s_set 3 (ams0 0 Ts M_waiting hr (by decide) tk) sc_l_doP.nd)
    (ss_one (s_if (tcmp (ao_eq hu) (aix (av 1) ai) as (nomark _))
      (ss_one (s_if (tcmp (ao_ne hu) (ams0 0 Ts M_pop hr (by decide) tk) (aixX (av 2) (aneg ai)) (nomark _))
        (ss_one (s_ret (atup (aa_cons as aa_nil))))
        ss_nil))
      (ss_one (s_if (tcmp (ao_eq hu) (aix (av 1) ai) as (nomark _))
        (ss_one (s_if (tcmp (ao_ne hu) (ams0 0 Ts M_push hr (by decide) tk) (aix (av 3) ai) (nomark _))
          (ss_one (s_ret (atup (aa_cons as aa_nil))))
          ss_nil))
        (ss_one (s_if (tcmp (ao_eq hu) (aix (av 1) ai) as (nomark _))
          (ss_one (s_expr (ams 0 Ts M_rebase hr (by decide) tk (aa_cons (aix (av 1) ai) aa_nil))))
          (ss_one (s_if (tcmp (ao_eq hu) (aix (av 1) ai) as (nomark _))
            (ss_one (s_expr (ams 0 Ts M_add hr (by decide) tk (aa_cons (aix (av 1) ai) (aa_cons (aix (av 1) ai) aa_nil)))))
            (ss_one (s_if (tcmp (ao_eq hu) (aix (av 1) ai) as (nomark _))
              (ss_one (s_expr (ams 0 Ts M_swap hr (by decide) tk (aa_cons (aix (av 1) ai) aa_nil))))
              (ss_one (s_if (tcmp (ao_eq hu) (aix (av 1) ai) as (nomark _))
                (ss_one (s_expr (ams 0 Ts M_float_off hr (by decide) tk (aa_cons (aix (av 1) ai) aa_nil))))
                (ss_one (s_if (tcmp (ao_eq hu) (aix (av 1) ai) as (nomark _))
                  (ss_cons (s_set 4 (ams 0 Ts M_sink hr (by decide) tk (aa_cons (aix (av 1) ai) aa_nil)) sc_l_doP.nd)
                  (ss_one (s_if (tcmp (ao_ne hu) (av 4) (aif (tcmp ao_inX (aix (av 1) ai) (av 2) (by rfl)) (ao ao_sub (aidxX (av 2) (aix (av 1) ai)) (aidxX (ams0 0 Ts M_appliedX hr (by decide) tk) (aix (av 1) ai))) ai) (nomark _))
                    (ss_one (s_ret (atup (aa_cons as aa_nil))))
                    ss_nil)))
                  (ss_one (s_expr (ams 0 Ts M_fold hr (by decide) tk (aa_cons (aix (av 1) ai) aa_nil)))))))))))))))))))))), fun EA xs S Q h hn => ?_⟩
  obtain ⟨N, W, ks, rfl, rfl, hh, G, hN, k1⟩ := h
  have sk : PyData.strOk ("add" : Str) = true := by decide +kernel
  have sz := sizeLine_eq
  have lw := many_len G hN
  have few := G.few
  have lk := hh.l
  obtain ⟨m, hm, hr2, om, lm⟩ := G.lines (by omega)
  refine ⟨rfl, W, ks, rfl, rfl, ?_⟩
  refine ⟨rfl, W, ks, rfl, rfl, ?_⟩
  dsimp only []
  show sIf _ _ _ _ (Ab.A.mk [some .stk, some (.im (deedD "add" "p9" badP)), some (.im (.xt ((W.words.take W.many).map .str))), some (.im (.tup ((W.words.drop W.many).map .str))), none, none] (some (stk W ks)))
  refine rd_kind rfl sk (by decide +kernel) (fun e => absurd e (by decide +kernel)) (fun e => ?_)
  refine rd_kind rfl sk (by decide +kernel) (fun e => absurd e (by decide +kernel)) (fun e => ?_)
  refine rd_kind rfl sk (by decide +kernel) (fun e => absurd e (by decide +kernel)) (fun e => ?_)
  refine rd_kind rfl sk (by decide +kernel) (fun e => ?_) (fun e => absurd rfl e)
  have nv : valid (-1) badP = false := by decide +kernel
  have sh : Short m badP := by
    unfold Short badP csum
    simp only [List.length_cons, List.length_nil, List.map_cons, List.map_nil, List.sum_cons, List.sum_nil]
    omega
  exact ⟨.str "p9", at1, paD badP, at2, rfl, W, ks, "p9", badP, m, rfl, rfl, hh.p, by omega, by omega, hr2, by decide, word_p9, ⟨fun h hh => by rw [List.mem_singleton.mp hh]; exact Int.le_refl 0, fun h hh => by rw [List.mem_singleton.mp hh]; exact fun _ h => (nomatch h), fun h hh => by rw [List.mem_singleton.mp hh]; exact fun _ h => (nomatch h)⟩, om, sh, by rw [sz]; decide, fun _ ρ => k1, fun _ e2 => (by rw [nv] at e2; cases e2)⟩
end
end Ab


namespace Ab
open PySem L2
theorem rd_ifF {ft : FT} {s t : FS} {En : AEnds} {a a1 : Ab.A} (hs : ∀ Q : Bool → Ab.A → Prop, Q false a1 → ft En.ex a Q) (h : t En a1) : sIf ft s t En a := hs _ (by rw [if_neg Bool.false_ne_true]; exact h)
theorem cmp_words {ws : List Str} (h : okL ws) : cmp 9 (.tup (ws.map D.str)) = true := okL_cmp (n := 8) h
section
variable {P : Program} {w : World} {K : PySem.W.Frag} {mg : Str → Option Value} {base : Heap} {Z : Cl}
abbrev s_l_looked : Stmt := top 42
abbrev n_l_looked : List Str := ["state", "stack", "world", "words", "many", "lines", "word", "at", "swaps"]
theorem sc_l_looked : FnScope n_l_looked ["state", "stack", "world"] (defScope s_l_looked) := ⟨rfl, rfl, rfl, by decide +kernel, rfl, by decide +kernel, by decide +kernel⟩
theorem ok_l_looked {f : Addr} {fd : FuncData} (Fn : Fun K "_law_looked" "_law_looked" s_l_looked f fd) (Tb : Blt mg) (Ts : StkTxt K Z) (D_law_lines_with : Dfn P w K mg base Z 3 "_law_lines_with" 1 fLinesW) (M_lines : Mtd P w K mg base Z 2 "lines" 1 fLinesS) (M_applied : Mtd P w K mg base Z 1 "applied" 1 fAppliedS) (M_waiting : Mtd P w K mg base Z 1 "waiting" 1 fWaitingS) (D_undone_lines : Dfn P w K mg base Z 5 "undone_lines" 1 fUndone) (M_patch : Mtd P w K mg base Z 3 "patch" 2 fPatchS) (D_law_apply : Dfn P w K mg base Z 1 "_law_apply" 2 fApply) (M_whole : Mtd P w K mg base Z 3 "whole" 1 fWholeS) (D_law_draw : Dfn P w K mg base Z 1 "_law_draw" 2 fDraw) (D_depends_on : Dfn P w K mg base Z 5 "depends_on" 2 fDepends) (D_law_hangs : Dfn P w K mg base Z 5 "_law_hangs" 2 fHangs) (D_law_swapped : Dfn P w K mg base Z 2 "_law_swapped" 2 fSwapped) (M_can_swap : Mtd P w K mg base Z 4 "can_swap" 2 fCanS) : FnOk P w K mg base (L2.CX P w) 6 f fd ["state", "stack", "world"] (spA Z 3 fLooked) := by
  refine aok Fn sc_l_looked rfl fun cdv A outer s H E hr => ?_
  have tk := takes_of (X := cxOf (L2.CX P w) P w K mg base n_l_looked "_law_looked" (defScope s_l_looked) f cdv A outer s H E) rfl rfl rfl rfl
  have hu := hu64 hr
  have hu1 := hu2 hr
  refine ⟨_, (ss_cons (s_set 3 (aget hu1 (kv 2) qs) sc_l_looked.nd)
    (ss_cons (s_set 4 (aget hu1 (kv 2) qs) sc_l_looked.nd)
    (ss_cons (s_set 5 (acl D_law_lines_with hr (by decide) tk (aa_cons (av 2) aa_nil) (by rfl)) sc_l_looked.nd)
    (ss_cons (s_if (wor (tcmp (ao_ne hu) (ams0 1 Ts M_lines hr (by decide) tk) (av 5) (nomark _)) (wor (tcmp (ao_ne hu) (ams0 1 Ts M_applied hr (by decide) tk) (atpl (asl (av 3) ono (oso (av 4))) Tb.tuple (by rfl)) (nomark _)) (wor (tcmp (ao_ne hu) (ams0 1 Ts M_waiting hr (by decide) tk) (atpl (asl (av 3) (oso (av 4)) ono) Tb.tuple (by rfl)) (nomark _)) (wor1 (tcmp (ao_ne hu) (acl D_undone_lines hr (by decide) tk (aa_tok 1 aa_nil) (by rfl)) (aget hu1 (kv 2) qs) (nomark _)))))).at
      (ss_one (s_ret ab))
      ss_nil)
    (ss_cons (s_if (wor (tval (aany rfl (alc (own := [("word", 6)]) rfl sc_l_looked.nd (i_l (av 3)) (blkOk_by (N := n_l_looked) (sc := defScope s_l_looked) (by decide +kernel)) (by decide) (fun _ _ _ _ _ => (g_nm 6 sc_l_looked.nd)) (fun _ _ _ _ _ => ts_nil) (fun _ _ _ _ _ => (acmp (ao_ne hu) (ams 1 Ts M_patch hr (by decide) takes0 (aa_cons (av 6) aa_nil)) (aget hu1 (kof (aget hu1 (kv 2) qs)) (qv 6)) (nomark _)))) Tb.any (by rfl))) (wor1 (tcmp (ao_ne hu) (acl D_law_apply hr (by decide) tk (aa_cons (aget hu1 (kv 2) qs) (aa_cons (ams0 1 Ts M_whole hr (by decide) tk) aa_nil)) (by rfl)) (av 5) (nomark _)))).at
      (ss_one (s_ret ab))
      ss_nil)
    (ss_cons (s_if (tcmp ao_gt (av 4) ai (nomark _))
      (ss_cons (s_set 6 (aix (av 3) (acl D_law_draw hr (by decide) tk (aa_tok 0 (aa_cons (av 4) aa_nil)) (by rfl))) sc_l_looked.nd)
      (ss_cons (s_if (tcmp (ao_ne hu) (acl D_depends_on hr (by decide) tk (aa_tok 1 (aa_cons (av 6) aa_nil)) (by rfl)) (acl D_law_hangs hr (by decide) tk (aa_cons (av 2) (aa_cons (av 6) aa_nil)) (by rfl)) (nomark _))
        (ss_one (s_ret ab))
        ss_nil)
      (ss_cons (s_set 7 (aidx (av 3) (av 6)) sc_l_looked.nd)
      (ss_cons (s_set 8 (aand (acmp ao_gt (av 7) ai (nomark _)) (aone (acmp ao_notN (acl D_law_swapped hr (by decide) tk (aa_cons (aget hu1 (kof (aget hu1 (kv 2) qs)) (qix (qv 3) (qsub (qv 7) qi))) (aa_cons (aget hu1 (kof (aget hu1 (kv 2) qs)) (qv 6)) aa_nil)) (by rfl)) an (nomark _)))) sc_l_looked.nd)
      (ss_one (s_ret (acmp ao_eqB (ams 1 Ts M_can_swap hr (by decide) tk (aa_cons (av 6) aa_nil)) (av 8) (nomark _))))))))
      ss_nil)
    (ss_one (s_ret ab)))))))), fun EA xs S Q h hn => ?_⟩
  obtain ⟨N, W, ks, pk, rfl, rfl, hh, hp, G, hN, hk⟩ := h
  have sz := sizeLine_eq
  have lw := many_len G hN
  have few := G.few
  have many := G.many
  obtain ⟨m, hm, hr2, om, lm⟩ := G.lines (by omega)
  have okT : okL (W.words.take W.many) := okL_words G fun x hx => List.mem_of_mem_take hx
  have okD : okL (W.words.drop W.many) := okL_words G fun x hx => List.mem_of_mem_drop hx
  have et : cutD (W.words.map D.str) none (some (W.many : Int)) = (W.words.take W.many).map D.str := by rw [cutD_take, List.map_take]
  have ed : cutD (W.words.map D.str) (some (W.many : Int)) none = (W.words.drop W.many).map D.str := by rw [cutD_end (by omega), List.map_drop]; rfl
  refine ⟨_, l4_w, _, l4_m, rfl, N, W, pk, m, rfl, hp, G, hN, hm, ?_⟩
  dsimp only []
  refine seqI ?_
  generalize hA : Ab.A.mk [some AV.rng, some .stk, some (.im (worldD W pk)), some (.im (.lst (W.words.map .str))), some (.im (.int (W.many : Nat))), some (.im (strsD m)), none, none, none] (some (stk W ks)) = A0
  show sIf _ _ _ _ (Ab.A.mk [some AV.rng, some .stk, some (.im (worldD W pk)), some (.im (.lst (W.words.map .str))), some (.im (.int (W.many : Nat))), some (.im (strsD m)), none, none, none] (some (stk W ks)))
  rw [hA]
  refine rd_ifF (a1 := A0) (fun Q2 hQ => rd_orF (a1 := A0) (fun Q3 hQ => rd_ne (d := strsD m) (a1 := A0) (fun Q hQ => ?_) (fun Q hQ => ?_) (okL_cmp (n := 8) om) hQ) (rd_orF (a1 := A0) (fun Q3 hQ => rd_ne (d := .tup ((W.words.take W.many).map D.str)) (a1 := A0) (fun Q hQ => ?_) (fun Q hQ => ?_) (cmp_words okT) hQ) (rd_orF (a1 := A0) (fun Q3 hQ => rd_ne (d := .tup ((W.words.drop W.many).map D.str)) (a1 := A0) (fun Q hQ => ?_) (fun Q hQ => ?_) (cmp_words okD) hQ) (rd_ne (d := strsD W.base) (a1 := A0) (fun Q hQ => ?_) (fun Q hQ => ?_) (okL_cmp (n := 8) G.okb) hQ)))) ?_
  case refine_1 => subst hA; exact ⟨rfl, W, ks, m, rfl, rfl, hh.p, lw, hr2, hQ⟩
  case refine_2 => subst hA; exact hQ
  case refine_3 => subst hA; exact ⟨rfl, W, ks, rfl, rfl, hQ⟩
  case refine_4 => subst hA; rw [← et] at hQ; exact hQ
  case refine_5 => subst hA; exact ⟨rfl, W, ks, rfl, rfl, hQ⟩
  case refine_6 => subst hA; rw [← ed] at hQ; exact hQ
  case refine_7 => subst hA; exact ⟨rfl, N, W, ks, rfl, rfl, hh, G, hN, hQ⟩
  case refine_8 => subst hA; exact ⟨_, l4_b, hQ⟩
  refine nxI ?_
  dsimp only []
  refine seqI ?_
  have gs := G.size
  obtain ⟨wv, wa⟩ := whole_ok (fun x p k => (G.pat x p k).v) (acc := []) (l := W.base) (k := W.base) rfl rfl hm
  generalize hW : wholeW W.pat [] (W.words.take W.many) = Wh at wv wa
  obtain ⟨wl1, wl2, wl3, _⟩ := app_len (i := 0) (by simpa using wv) wa
  have pw : PatOk N Wh := ⟨wv, app_ok wa G.okb om, by omega, by omega, by omega⟩
  refine rd_ifF (a1 := A0) (fun Q2 hQ => rd_orF (a1 := A0) (fun Q3 hQ => ?_) (rd_ne (d := strsD m) (a1 := A0) (fun Q hQ => ?_) (fun Q hQ => ?_) (okL_cmp (n := 8) om) hQ)) ?_
  case refine_1 =>
    subst hA
    show lcA _ _ _ _ (W.words.map .str) _ _ _
    refine lcA_inv D.str (fun r a acc => ∃ n : Nat, acc = (List.replicate n false).map D.bl ∧ n + r.length ≤ W.words.length ∧ (∀ y ∈ r, y ∈ W.words) ∧ a = ⟨[some .rng, some .stk, some (.im (worldD W pk)), some (.im (.lst (W.words.map .str))), some (.im (.int (W.many : Nat))), some (.im (strsD m)), none, none, none], some (stk W ks)⟩) ?_ ?_ W.words _ [] ⟨0, rfl, by simp, fun y hy => hy, rfl⟩
    · rintro y r a acc N' ⟨n, rfl, e1, e2, rfl⟩ hN'
      rw [List.length_cons] at e1
      have hy := e2 y List.mem_cons_self
      obtain ⟨q, hq⟩ := G.at hy
      obtain ⟨y1, y2, y3⟩ := G.wok y hy
      have cq : cmp 9 (paD q) = true := cmp_pa (G.pat y q hq).o
      refine ⟨rfl, W, ks, y, q, rfl, rfl, hh.p, by omega, y1, hq, .dct pk, l4_p, paD q, hp.p.some hq, cq, cq, ?_⟩
      show _ < _ ∧ N' _ (_ ++ [D.bl (!same (paD q) (paD q))])
      rw [same_self]
      exact ⟨by rw [List.length_map, List.length_replicate]; omega, hN' _ _ ⟨n + 1, by rw [List.replicate_succ', List.map_append]; rfl, by omega, fun z hz => e2 z (List.mem_cons_of_mem _ hz), rfl⟩⟩
    · rintro a acc ⟨n, rfl, e1, e2, rfl⟩
      refine ⟨List.replicate n false, rfl, ?_⟩
      show Q3 ((List.replicate n false).any id) _
      rw [show (List.replicate n false).any id = false by simp]
      exact hQ
  case refine_2 =>
    subst hA
    refine ⟨_, l4_b, rfl, N, W, ks, rfl, rfl, hh, G, hN, ?_⟩
    rw [hW]
    exact ⟨rfl, W.base, Wh, rfl, G.okb, pw.fine, pw.short (by omega) (by omega), fun n en => (by rw [putOn_app wv, wa] at en; cases en; exact hQ), fun en => (by rw [putOn_app wv, wa] at en; cases en)⟩
  case refine_3 => subst hA; exact hQ
  refine nxI ?_
  dsimp only []
  refine seqI ?_
  subst hA
  refine ite2 (fun c => ?_) (fun c => ?_)
  case refine_2 => exact hk
  have c : (0 : Int) < (W.many : Nat) := of_decide_eq_true c
  try dsimp only []
  refine ⟨rfl, (W.many : Nat), rfl, c, by omega, fun d d0 d1 => ?_⟩
  have hlt : d.toNat < W.words.length := by omega
  have hx : W.words[d.toNat]? = some W.words[d.toNat] := List.getElem?_eq_getElem hlt
  have hmem := List.getElem_mem hlt
  generalize W.words[d.toNat] = x at hx hmem
  obtain ⟨p, hpx⟩ := G.at hmem
  obtain ⟨x1, x2, x3⟩ := G.wok x hmem
  refine ⟨.str x, by rw [show d = ((d.toNat : Nat) : Int) by omega]; exact nth_words hx, ?_⟩
  dsimp only []
  refine seqI ?_
  generalize hA1 : Ab.A.mk [some AV.rng, some .stk, some (.im (worldD W pk)), some (.im (.lst (W.words.map .str))), some (.im (.int (W.many : Nat))), some (.im (strsD m)), some (.im (.str x)), none, none] (some (stk W ks)) = A1
  show sIf _ _ _ _ (Ab.A.mk [some AV.rng, some .stk, some (.im (worldD W pk)), some (.im (.lst (W.words.map .str))), some (.im (.int (W.many : Nat))), some (.im (strsD m)), some (.im (.str x)), none, none] (some (stk W ks)))
  rw [hA1]
  have il := idx_le (x := x) (l := W.words)
  have hc : cmp 9 (.tup ((hangR W.pat (W.words.take (idx x W.words)).reverse [(x, p)] []).map D.str)) = true := cmp_words (okL_words G fun y hy => by
    rcases hang_mem y hy with z | z
    · exact List.mem_of_mem_take (List.mem_reverse.mp z)
    · cases z)
  refine rd_ifF (a1 := A1) (fun Q2 hQ => rd_ne (d := .tup ((hangR W.pat (W.words.take (idx x W.words)).reverse [(x, p)] []).map .str)) (a1 := A1) (fun Q hQ => ?_) (fun Q hQ => ?_) hc hQ) ?_
  case refine_1 => subst hA1; exact ⟨rfl, N, W, ks, x, p, rfl, rfl, hh, G, hN, hmem, hpx, hQ⟩
  case refine_2 => subst hA1; exact ⟨rfl, N, W, pk, x, p, rfl, hp, G, hN, hmem, hpx, hQ⟩
  subst hA1
  refine nxI ?_
  try dsimp only []
  refine seqI ?_
  refine ⟨flat_words, rfl, idx x W.words, at_words hmem, fun m h => no_words h, ?_⟩
  dsimp only []
  refine seqI ?_
  -- swaps
  have fin : ∀ b : Bool, b = isOk (swapW W x) → sRet (fOp FEqB (fMeth 1 2 fCanS (fCons (fVar 6) fNil)) (fVar 8)) (endA EA Q) (Ab.A.mk [some AV.rng, some .stk, some (.im (worldD W pk)), some (.im (.lst (W.words.map .str))), some (.im (.int (W.many : Nat))), some (.im (strsD m)), some (.im (.str x)), some (.im (.int (idx x W.words : Nat))), some (.im (.bl b))] (some (stk W ks))) := fun b hb => by
    refine ⟨rfl, N, W, ks, x, rfl, rfl, hh, G, hN, by omega, fun z => (by rw [x1] at z; cases z), fun _ => ⟨fun z => absurd hmem z, fun _ => ?_⟩⟩
    show Q (.bl (decide (isOk (swapW W x) = b))) _
    rw [hb, decide_eq_true rfl]
    exact hk
  have i0 : idx x W.words < W.many := by
    rcases Nat.lt_or_ge (idx x W.words) W.many with h | h
    · exact h
    · exact absurd hx (idx_no (by omega))
  rcases swap_cases G x with ⟨e, e2⟩ | ⟨A, o, B, f, s, h1, hsw⟩
  · have e3 : idx x W.words = 0 := by omega
    have := fin false (by rw [e]; rfl)
    revert this
    rw [e3]
    exact fun z => z
  · have hi := h1.i
    have ato : atI (W.words.map D.str) ((idx x W.words : Nat) - 1 : Int) = some (.str o) := by
      rw [show ((idx x W.words : Nat) - 1 : Int) = (A.length : Nat) by omega, atI_nat (by rw [h1.w]; simp), h1.w]
      simp
    show (match D.bl (decide (((idx x W.words : Nat) : Int) > 0)) with | .bl true => _ | .bl false => _ | _ => False)
    rw [decide_eq_true (by omega)]
    refine ⟨.dct pk, l4_p, .str o, ato, paD f, hp.p.some h1.f, .dct pk, l4_p, paD s, hp.p.some h1.s, rfl, f, s, rfl, pat_len G hN h1.f, pat_len G hN h1.s, ?_⟩
    rcases hsw with ⟨t, e⟩ | ⟨t, e⟩
    · exact .inl ⟨t, fin false (by rw [e]; rfl)⟩
    · obtain ⟨t2, va, vb⟩ := h1.no2 G t
      exact .inr ⟨t, t2, fin true (by rw [e]; rfl)⟩
end
end Ab


namespace Ab
open PySem L2
abbrev s_init : Stmt := inClass (top 24) 0
abbrev n_init : List Str := ["self", "lines"]
theorem sc_init : FnScope n_init ["self", "lines"] (defScope s_init) := ⟨rfl, rfl, rfl, by decide +kernel, rfl, by decide +kernel, by decide +kernel⟩
def spInit (Z : Cl) : Sp := fun vs H Q _ => ∃ x dx b ss, vs = [.ref x, .ref b] ∧ H x = some (.ins Z.stack dx []) ∧ H b = some (.tup ss) ∧
  ∀ (H' : Hp) (w pd : Addr), H w = none → H pd = none → w ≠ pd → H' x = some (.ins Z.stack dx (flds (.ref b) (.ref w) (.ref pd) 0)) → H' w = some (.lst []) → H' pd = some (.dK []) → (∀ z, z ≠ x → z ≠ w → z ≠ pd → H' z = H z) → Q .non H'
section
variable {P : Program} {w : World} {K : PySem.W.Frag} {mg : Str → Option Value} {base : Heap} {Z : Cl}
theorem ok_init {f : Addr} {fd : FuncData} (Fn : Fun K "__init__" "Stack.__init__" s_init f fd) (Tb : Blt mg) (Ts : StkTxt K Z) : FnOk P w K mg base (L2.CX P w) 1 f fd ["self", "lines"] (spInit Z) := by
  refine Fn.okX sc_init (fun vs H Q E h => ?_) fun cdv A outer s H vs Q E hr h => ?_
  · obtain ⟨x, dx, b, ss, rfl, _⟩ := h; rfl
  have pv0 : ∀ {pos : Pos}, PE (cxOf (L2.CX P w) P w K mg base n_init "Stack.__init__" (defScope s_init) f cdv A outer s H E) (.Name "self" pos) (tVar 0) := pe_var rfl (.inl rfl)
  have pv1 : ∀ {pos : Pos}, PE (cxOf (L2.CX P w) P w K mg base n_init "Stack.__init__" (defScope s_init) f cdv A outer s H E) (.Name "lines" pos) (tVar 1) := pe_var rfl (.inl rfl)
  refine ⟨_, pss_cons (ps_fld pv0 (pe_callTy call_tuple_of rfl Tb.tuple (by decide +kernel) (pa_cons pv1 pa_nil rfl) (by decide) (by decide) rfl rfl) rfl)
    (pss_cons (ps_fld pv0 (pe_lst pa_nil) rfl) (pss_cons (ps_fld pv0 pe_dnewK rfl) (pss_one (ps_fld pv0 pe_int rfl)))), ?_⟩
  obtain ⟨x, dx, b, ss, rfl, hx, hb, h⟩ := h
  refine ⟨.ref b, rfl, b, ss, rfl, .inr ⟨SqT.of hb, .ref x, rfl, x, Z.stack, dx, [], rfl, hx, Ts.cl, Ts.nb, (show 0 < 1000 by decide), ?_⟩⟩
  have hxb : x ≠ b := fun e => by rw [e, hb] at hx; cases hx
  refine ⟨Nat.zero_le _, fun w hw => ?_⟩
  have nw : w ≠ x := fun e => by rw [e, upd_same] at hw; cases hw
  have nwb : w ≠ b := fun e => by rw [e, upd_ne hxb.symm, hb] at hw; cases hw
  refine ⟨.ref x, rfl, x, Z.stack, dx, [("base", .ref b)], rfl, by rw [upd_ne nw.symm, upd_same]; rfl, Ts.cl, Ts.nw, (show 1 < 1000 by decide), ?_⟩
  intro pd hpd
  have npx : pd ≠ x := fun e => by rw [e, upd_same] at hpd; cases hpd
  have npw : pd ≠ w := fun e => by rw [e, upd_ne nw, upd_same] at hpd; cases hpd
  refine ⟨.ref x, rfl, x, Z.stack, dx, [("base", .ref b), ("words", .ref w)], rfl, by rw [upd_ne npx.symm, upd_same]; rfl, Ts.cl, Ts.np, (show 2 < 1000 by decide), ?_⟩
  refine ⟨.ref x, rfl, x, Z.stack, dx, [("base", .ref b), ("words", .ref w), ("patches", .ref pd)], rfl, upd_same, Ts.cl, Ts.nm, (show 3 < 1000 by decide), ?_⟩
  refine h _ w pd (by rw [upd_ne nw] at hw; exact hw) (by rw [upd_ne npx, upd_ne npw, upd_ne npx] at hpd; exact hpd) npw.symm ?_ ?_ ?_ fun z z1 z2 z3 => ?_
  · rw [upd_same]; rfl
  · rw [upd_ne nw, upd_ne nw, upd_ne npw.symm, upd_ne nw, upd_same]
  · rw [upd_ne npx, upd_ne npx, upd_same]
  · rw [upd_ne z1, upd_ne z1, upd_ne z3, upd_ne z1, upd_ne z2, upd_ne z1]
end
end Ab


namespace Ab
open PySem L2
theorem carry_word {f : Str → Option (List Hk)} : ∀ {ws : List Str} {over : List Hk} {g : Str → Option (List Hk)} {y : Str}, carryW f ws over g = .inl y → y ∈ ws
  | [], over, g, y, h => by rw [carryW] at h; cases h
  | w :: r, over, g, y, h => by
    rw [carryW] at h
    split at h
    · split at h
      · cases h; exact List.mem_cons_self
      · exact List.mem_cons_of_mem _ (carry_word h)
    · cases h; exact List.mem_cons_self
theorem due_tup {W : Wd} {kind x : Str} {p : List Hk} {d : D} (h : dueW W kind x p = .tup d) : d = noneD ∨ d = clashD ∨ ∃ y, (y = x ∨ y ∈ W.words) ∧ d = refD y := by
  have no : ∀ {V : Wd}, ¬ (Due.ok V = .tup d) := fun z => by cases z
  have t : ∀ {e : D}, Due.tup e = .tup d → d = e := fun z => by cases z; rfl
  unfold dueW at h
  split at h
  · split at h
    · exact .inl (t h)
    · exact (no h).elim
  · split at h
    · split at h
      · exact .inl (t h)
      · split at h
        · split at h
          · exact (no h).elim
          · exact .inr (.inl (t h))
        · exact .inl (t h)
    · split at h
      · split at h
        · exact .inr (.inl (t h))
        · split at h
          · rename_i y hy
            exact .inr (.inr ⟨y, .inr (List.mem_of_mem_take (carry_word hy)), t h⟩)
          · exact (no h).elim
      · split at h
        · split at h
          · exact .inr (.inr ⟨x, .inl rfl, t h⟩)
          · split at h
            · exact (no h).elim
            · exact .inr (.inl (t h))
        · split at h
          · exact .inl (t h)
          · split at h
            · split at h
              · exact .inl (t h)
              · exact .inr (.inr ⟨x, .inl rfl, t h⟩)
              · exact (no h).elim
            · split at h
              · split at h
                · exact (no h).elim
                · exact .inr (.inr ⟨x, .inl rfl, t h⟩)
              · split at h
                · exact (no h).elim
                · split at h
                  · exact (no h).elim
                  · exact .inl (t h)
theorem due_words {N : Nat} {W W' : Wd} {kind x : Str} {p : List Hk} (G : Good N W) (h : dueW W kind x p = .ok W') : ∀ y ∈ W'.words, y ∈ W.words ∨ y = x := by
  have no : ∀ {e : D}, ¬ (Due.tup e = .ok W') := fun z => by cases z
  have same : ∀ {V : Wd}, V.words = W.words → Due.ok V = .ok W' → ∀ y ∈ W'.words, y ∈ W.words ∨ y = x := fun e z y hy => by cases z; rw [e] at hy; exact .inl hy
  unfold dueW at h
  split at h
  · split at h
    · exact (no h).elim
    · cases h; exact fun y hy => .inl hy
  · split at h
    · split at h
      · exact (no h).elim
      · split at h
        · split at h
          · cases h; exact fun y hy => .inl hy
          · exact (no h).elim
        · exact (no h).elim
    · split at h
      · split at h
        · exact (no h).elim
        · split at h
          · exact (no h).elim
          · cases h; exact fun y hy => .inl hy
      · split at h
        · split at h
          · exact (no h).elim
          · split at h
            · cases h
              intro y hy
              have hy : y ∈ W.words.take W.many ++ [x] ++ W.words.drop W.many := hy
              rcases List.mem_append.mp hy with z | z
              · rcases List.mem_append.mp z with z | z
                · exact .inl (List.mem_of_mem_take z)
                · exact .inr (List.mem_singleton.mp z)
              · exact .inl (List.mem_of_mem_drop z)
            · exact (no h).elim
        · split at h
          · exact (no h).elim
          · split at h
            · split at h
              · exact (no h).elim
              · exact (no h).elim
              · rename_i e
                cases h
                intro y hy
                exact .inl (((swap_ok G e).2.2.2.2.2.2 y).mp hy)
            · split at h
              · split at h
                · rename_i e
                  cases h
                  intro y hy
                  exact .inl (((float_ok G e).2.2 y).mp hy)
                · exact (no h).elim
              · split at h
                · cases h
                  intro y hy
                  exact .inl (((sink_ok G).2.2.2.2.1 y).mp hy)
                · split at h
                  · rename_i e
                    cases h
                    rcases fold_cases G x with ⟨e2, _⟩ | ⟨A, o, B, f, s, h1, e2⟩
                    · rw [e2] at e; cases e
                    · rw [e2] at e; cases e
                      intro y hy
                      have hy : y ∈ A ++ o :: B := hy
                      rw [h1.w]
                      left
                      simp at hy ⊢
                      rcases hy with z | z | z <;> simp [z]
                  · exact (no h).elim
theorem due_cmp {N : Nat} {W : Wd} {kind x : Str} {p : List Hk} {d : D} (G : Good N W) (wx : WordOk x) (h : dueW W kind x p = .tup d) : cmp 9 d = true ∧ ∃ ds, d = .tup ds := by
  rcases due_tup h with rfl | rfl | ⟨y, hy, rfl⟩
  · exact ⟨by decide +kernel, _, rfl⟩
  · exact ⟨by decide +kernel, _, rfl⟩
  · have wy : PyData.strOk y = true := by
      rcases hy with rfl | hy
      · exact wx.2.2
      · exact (G.wok y hy).2.2
    refine ⟨?_, _, rfl⟩
    show cmps 8 [.str "refused", .str y] = true
    have : PyData.strOk ("refused" : Str) = true := by decide +kernel
    simp [cmps, cmp, wy, this]
theorem kinds11 {d : Int} (h0 : 0 ≤ d) (h1 : d < 11) : ∃ k, k ∈ kinds ∧ atI [D.str "add", .str "add", .str "add", .str "pop", .str "push", .str "swap", .str "swap", .str "float", .str "sink", .str "fold", .str "rebase"] d = some (.str k) := by
  have : d = 0 ∨ d = 1 ∨ d = 2 ∨ d = 3 ∨ d = 4 ∨ d = 5 ∨ d = 6 ∨ d = 7 ∨ d = 8 ∨ d = 9 ∨ d = 10 := by omega
  rcases this with rfl | rfl | rfl | rfl | rfl | rfl | rfl | rfl | rfl | rfl | rfl
  · exact ⟨"add", by decide +kernel, rfl⟩
  · exact ⟨"add", by decide +kernel, rfl⟩
  · exact ⟨"add", by decide +kernel, rfl⟩
  · exact ⟨"pop", by decide +kernel, rfl⟩
  · exact ⟨"push", by decide +kernel, rfl⟩
  · exact ⟨"swap", by decide +kernel, rfl⟩
  · exact ⟨"swap", by decide +kernel, rfl⟩
  · exact ⟨"float", by decide +kernel, rfl⟩
  · exact ⟨"sink", by decide +kernel, rfl⟩
  · exact ⟨"fold", by decide +kernel, rfl⟩
  · exact ⟨"rebase", by decide +kernel, rfl⟩
def wname (d : Int) : Str := ("p" : Str) ++ (Str.ofString (toString d))
theorem wname_ok {d : Int} (h0 : 0 ≤ d) (h1 : d < 6) : WordOk (wname d) ∧ wname d ≠ "q9" ∧ (wname d).length ≤ 1000 ∧ d.natAbs.log2 < 1920 ∧ ("p" : Str).length + (Str.ofString (toString d)).length ≤ 1000 := by
  have : d = 0 ∨ d = 1 ∨ d = 2 ∨ d = 3 ∨ d = 4 ∨ d = 5 := by omega
  unfold WordOk
  rcases this with rfl | rfl | rfl | rfl | rfl | rfl
  · exact ⟨⟨by decide +kernel, by decide +kernel, by decide +kernel⟩, by decide +kernel, by decide +kernel, by decide +kernel, by decide +kernel⟩
  · exact ⟨⟨by decide +kernel, by decide +kernel, by decide +kernel⟩, by decide +kernel, by decide +kernel, by decide +kernel, by decide +kernel⟩
  · exact ⟨⟨by decide +kernel, by decide +kernel, by decide +kernel⟩, by decide +kernel, by decide +kernel, by decide +kernel, by decide +kernel⟩
  · exact ⟨⟨by decide +kernel, by decide +kernel, by decide +kernel⟩, by decide +kernel, by decide +kernel, by decide +kernel, by decide +kernel⟩
  · exact ⟨⟨by decide +kernel, by decide +kernel, by decide +kernel⟩, by decide +kernel, by decide +kernel, by decide +kernel, by decide +kernel⟩
  · exact ⟨⟨by decide +kernel, by decide +kernel, by decide +kernel⟩, by decide +kernel, by decide +kernel, by decide +kernel, by decide +kernel⟩
theorem abcd {d : Int} (h0 : 0 ≤ d) (h1 : d < 4) : ∃ c, atI ("abcd" : Str).cps.toList d = some c ∧ PyData.strOk ((⟨#[c]⟩ : Str) ++ ("\n" : Str)) = true := by
  have : d = 0 ∨ d = 1 ∨ d = 2 ∨ d = 3 := by omega
  rcases this with rfl | rfl | rfl | rfl
  · exact ⟨_, rfl, by decide +kernel⟩
  · exact ⟨_, rfl, by decide +kernel⟩
  · exact ⟨_, rfl, by decide +kernel⟩
  · exact ⟨_, rfl, by decide +kernel⟩
theorem Drawn.ok {p : List Hk} (h : Drawn p) {N : Nat} : PatOk (N + 4) p ∧ grow p ≤ 4 := ⟨⟨h.v, h.o, by have := h.l; omega, by have := h.g; omega, by have := h.c; omega⟩, by unfold grow; have := h.c; omega⟩
def badQ (d : Int) : List Hk := [⟨d, ["q\n"], []⟩]
theorem badQ_ok {d : Int} (h : 0 ≤ d) : Drawn (badQ d) := by
  refine ⟨valid_of (show (-1 : Int) < d by omega) (show ¬ (["q\n"] : List Str) = [] by simp) rfl, fun h hh => ?_, (show 1 ≤ 2 by decide), (show 1 ≤ 4 by decide), (show 0 ≤ 4 by decide)⟩
  rw [List.mem_singleton.mp hh]
  exact ⟨(fun s hs => by rw [List.mem_singleton.mp hs]; decide +kernel), (fun _ h => nomatch h)⟩
def wd0 (b : List Str) : Wd := ⟨b, [], fun _ => none, 0⟩
theorem wd0_good {b : List Str} (o : okL b) (h : b.length ≤ 12) : Good 12 (wd0 b) :=
  ⟨List.nodup_nil, Nat.zero_le _, (fun x => by simp [wd0]), Nat.le_refl _, o, (fun x p h => by cases h), ⟨b, rfl⟩, (by show b.length + 0 ≤ 12; omega), (fun _ h => nomatch h)⟩
theorem held0 {b : List Str} : Held (wd0 b) [] := ⟨fun y => rfl, Nat.le_refl _, fun _ h => (nomatch h)⟩
end Ab


namespace Ab
open PySem L2
abbrev s_law : Stmt := top 44
abbrev n_law : List Str := ["script", "state", "world", "k", "stack", "kind", "word", "deed", "due"]
theorem sc_law : FnScope n_law ["script"] (defScope s_law) := ⟨rfl, rfl, rfl, by decide +kernel, rfl, by decide +kernel, by decide +kernel⟩
def spLaw (K : PySem.W.Frag) (Z : Cl) : Sp := fun vs H Q _ => ∃ (a : Addr) (ns : List Int), vs = [.ref a] ∧ SqL K H a (ns.map V.int) ∧ (∀ t, t ∈ Z.tabs → GxR.TabG H t) ∧ ∀ H', Q (.bl true) H'
/-- the rest of the law, behind the stack's making -/
structure Defs (P : Program) (w : World) (K : PySem.W.Frag) (mg : Str → Option Value) (base : Heap) (Z : Cl) : Prop where
  draw : Dfn P w K mg base Z 1 "_law_draw" 2 fDraw
  change : Dfn P w K mg base Z 2 "_law_change" 2 fChange
  lines : Dfn P w K mg base Z 3 "_law_lines_with" 1 fLinesW
  due : Dfn P w K mg base Z 5 "_law_due" 2 fDue
  do_ : Dfn P w K mg base Z 6 "_law_do" 2 fDo
  doA : Dfn P w K mg base Z 6 "_law_do" 2 fDoA
  doP : Dfn P w K mg base Z 6 "_law_do" 2 fDoP
  looked : Dfn P w K mg base Z 6 "_law_looked" 3 fLooked
  cannot : Dfn P w K mg base Z 5 "_law_cannot" 2 fCannot
theorem not_applied {N : Nat} {W : Wd} (G : Good N W) {y : Str} (h : y ∈ W.words.drop W.many) : swapW W y = .no := by
  have nd := G.nd
  rw [← List.take_append_drop W.many W.words] at nd
  obtain ⟨_, _, n3⟩ := List.nodup_append.mp nd
  have : W.many ≤ idx y W.words := by
    rcases Nat.lt_or_ge (idx y W.words) W.many with c | c
    · have h1 : y ∈ W.words.take W.many := List.mem_of_getElem? (by rw [List.getElem?_take, if_pos c]; exact idx_at (List.mem_of_mem_drop h))
      exact absurd rfl (n3 y h1 y h)
    · exact c
  unfold swapW; rw [if_pos (.inr this)]
theorem rd_deed {N : Nat} {W : Wd} {pk : List (Str × D)} {kind x : Str} {S : Option Stk} {r3 r4 r7 r8 : Option AV} {En : AEnds} (G : Good N W) (hp : Held W pk) (hN : N ≤ 90) (sk : PyData.strOk kind = true)
    (h : ∀ p, Drawn p → En.nx ⟨[none, some .rng, some (.im (worldD W pk)), r3, r4, some (.im (.str kind)), some (.im (.str x)), some (.im (deedD kind x p)), r8], S⟩) :
    sSet 7 (fTup (fCons (fVar 5) (fCons (fVar 6) (fCons (fCall 2 fChange (fTok 1 (fCons (vIf (tB (fOp FEq (fVar 5) (fC (.str "rebase")))) (fGet (kVar 2) (qC (.str "base"))) (fCall 1 fLinesW (fCons (fVar 2) fNil))) fNil))) fNil)))) En
      (Ab.A.mk [none, some .rng, some (.im (worldD W pk)), r3, r4, some (.im (.str kind)), some (.im (.str x)), r7, r8] S) := by
  have z3 : 3 ≤ sizeLine := sz3
  obtain ⟨m, hm, hr2, om, lm⟩ := G.lines (by omega)
  have gs := G.size
  refine ⟨sk, by decide +kernel, ?_⟩
  show if same (.str kind) (.str "rebase") = true then _ else _
  refine ite2 (fun c => ?_) (fun c => ?_)
  · exact ⟨_, l4_b, rfl, W.base, rfl, G.okb, by omega, fun p hp => ⟨z3, h p hp⟩⟩
  · exact ⟨rfl, N, W, pk, m, rfl, hp, G, by omega, hm, rfl, m, rfl, om, by omega, fun p hp => ⟨z3, h p hp⟩⟩
theorem rd_bad {kind x : Str} {S : Option Stk} {r0 r2 r3 r4 r8 : Option AV} {En : AEnds} {p : List Hk} (sk : PyData.strOk kind = true) (hp : Drawn p)
    (h : ∀ p, Drawn p → En.nx ⟨[r0, some .rng, r2, r3, r4, some (.im (.str kind)), some (.im (.str x)), some (.im (deedD kind x p)), r8], S⟩) :
    sIf (fAnd (tB (fOp FEq (fVar 5) (fC (.str "add")))) (tB (fOp FEq (fCall 2 fDraw (fTok 1 (fCons (fC (.int 5)) fNil))) (fC (.int 0)))))
      (sSet 7 (fTup (fCons (fVar 5) (fCons (fVar 6) (fCons (fTup (fCons (fTup (fCons (fCall 2 fDraw (fTok 1 (fCons (fC (.int 20)) fNil))) (fCons (fTup (fCons (fC (.str "q\n")) fNil)) (fCons (fTup fNil) fNil)))) fNil)) fNil))))) sNx En
      (Ab.A.mk [r0, some .rng, r2, r3, r4, some (.im (.str kind)), some (.im (.str x)), some (.im (deedD kind x p)), r8] S) := by
  have z3 : 3 ≤ sizeLine := sz3
  have z1 : 1 ≤ sizeLine := sz3
  refine ⟨sk, by decide +kernel, ?_⟩
  show if same (.str kind) (.str "add") = true then _ else _
  refine ite2 (fun c => ?_) (fun c => ?_)
  · refine ⟨rfl, 5, rfl, by omega, by omega, fun d d0 d1 => ⟨rfl, rfl, ?_⟩⟩
    show if same (.int d) (.int 0) = true then _ else _
    refine ite2 (fun c => ?_) (fun c => ?_)
    · exact ⟨rfl, 20, rfl, by omega, by omega, fun e e0 e1 => ⟨z1, Nat.zero_le _, z3, z1, z3, h (badQ e) (badQ_ok e0)⟩⟩
    · exact h p hp
  · exact h p hp
section
variable {P : Program} {w : World} {K : PySem.W.Frag} {mg : Str → Option Value} {base : Heap} {Z : Cl}
def sRest : List Stmt := (defBody s_law).drop 3
theorem der_rest {f : Addr} {cdv : Value} {A : Around} {outer : List Env} {s : Shared} {H : Hp} {E : XK} (Tb : Blt mg) (Ds : Defs P w K mg base Z) (hr : Room 6 (A.deeper (PyProof.Rows.envOfC "law" (defScope s_law) s.heap.objs.size f cdv))) :
    ∃ r, ASs (cxOf (L2.CX P w) P w K mg base n_law "law" (defScope s_law) f cdv A outer s H E) Z (fun c d _ H => E c d H) sRest r ∧ ∀ (W : Wd) (ks pk : List (Str × D)) (Q : D → Option Stk → Prop), Good 12 W → W.words = [] → Held W ks → Held W pk → (∀ S, Q (.bl true) S) →
      r (endA (fun _ _ => False) Q) ⟨[none, some .rng, some (.im (worldD W pk)), none, some .stk, none, none, none, none], some (stk W ks)⟩ := by
  have hp := passes_of (X := cxOf (L2.CX P w) P w K mg base n_law "law" (defScope s_law) f cdv A outer s H E) rfl
  have tk := takes_of (X := cxOf (L2.CX P w) P w K mg base n_law "law" (defScope s_law) f cdv A outer s H E) rfl rfl rfl rfl
  have hu := hu64 hr
  have hu1 := hu2 hr
  have D_law_draw := Ds.draw
  have D_law_change := Ds.change
  have D_law_lines_with := Ds.lines
  have D_law_due := Ds.due
  have D_law_do := Ds.do_
  have D_law_doA := Ds.doA
  have D_law_doP := Ds.doP
  have D_law_looked := Ds.looked
  have D_law_cannot := Ds.cannot
  refine ⟨_, (ss_cons (s_for hp rfl (i_r (acl D_law_draw hr (by decide) tk (aa_tok 1 (aa_cons ai aa_nil)) (by rfl)) Tb.range (by rfl)) (g_nm 3 sc_law.nd)
      (ss_cons (s_set 5 (aix (anew (alst (aa_cons as (aa_cons as (aa_cons as (aa_cons as (aa_cons as (aa_cons as (aa_cons as (aa_cons as (aa_cons as (aa_cons as (aa_cons as aa_nil))))))))))))) (acl D_law_draw hr (by decide) tk (aa_tok 1 (aa_cons ai aa_nil)) (by rfl))) sc_law.nd)
      (ss_cons (s_set 6 (ao ao_add as (astr (acl D_law_draw hr (by decide) tk (aa_tok 1 (aa_cons ai aa_nil)) (by rfl)) Tb.str (by rfl))) sc_law.nd)
      (ss_cons (s_set 7 (atup (aa_cons (av 5) (aa_cons (av 6) (aa_cons (acl D_law_change hr (by decide) tk (aa_tok 1 (aa_cons (aif (tcmp (ao_eq hu) (av 5) as (nomark _)) (aget hu1 (kv 2) qs) (acl D_law_lines_with hr (by decide) tk (aa_cons (av 2) aa_nil) (by rfl))) aa_nil)) (by rfl)) aa_nil)))) sc_law.nd)
      (ss_cons (s_if (wand (tcmp (ao_eq hu) (av 5) as (nomark _)) (wand1 (tcmp (ao_eq hu) (acl D_law_draw hr (by decide) tk (aa_tok 1 (aa_cons ai aa_nil)) (by rfl)) ai (nomark _)))).at
        (ss_one (s_set 7 (atup (aa_cons (av 5) (aa_cons (av 6) (aa_cons (atup (aa_cons (atup (aa_cons (acl D_law_draw hr (by decide) tk (aa_tok 1 (aa_cons ai aa_nil)) (by rfl)) (aa_cons (atup (aa_cons as aa_nil)) (aa_cons (atup aa_nil) aa_nil)))) aa_nil)) aa_nil)))) sc_law.nd))
        ss_nil)
      (ss_cons (s_set 8 (acl D_law_due hr (by decide) tk (aa_cons (av 2) (aa_cons (av 7) aa_nil)) (by rfl)) sc_law.nd)
      (ss_cons (s_if (tcmp (ao_ne hu) (acl D_law_do hr (by decide) tk (aa_tok 4 (aa_cons (av 7) aa_nil)) (by rfl)) (aif (tval (aisi .tuple (av 8) Tb.isinstance Tb.tuple (by rfl) (by rfl) (by decide +kernel))) (av 8) an) (nomark _))
        (ss_one (s_ret ab))
        ss_nil)
      (ss_cons (s_set 2 (aif (tval (aisi .tuple (av 8) Tb.isinstance Tb.tuple (by rfl) (by rfl) (by decide +kernel))) (av 2) (av 8)) sc_law.nd)
      (ss_one (s_if (tnot (tval (acl D_law_looked hr (by decide) tk (aa_tok 1 (aa_tok 4 (aa_cons (av 2) aa_nil))) (by rfl))))
        (ss_one (s_ret ab))
        ss_nil))))))))))
    (ss_cons (s_if (wor (tcmp (ao_ne hu) (acl D_law_cannot hr (by decide) tk (aa_tok 4 (aa_cons as aa_nil)) (by rfl)) as (nomark _)) (wor (tcmp (ao_ne hu) (acl D_law_cannot hr (by decide) tk (aa_tok 4 (aa_cons as aa_nil)) (by rfl)) as (nomark _)) (wor1 (tval (aany rfl (alc (own := [("word", 6)]) rfl sc_law.nd (i_l (asl (aget hu1 (kv 2) qs) (oso (aget hu1 (kv 2) qs)) ono)) (blkOk_by (N := n_law) (sc := defScope s_law) (by decide +kernel)) (by decide) (fun _ _ _ _ _ => (g_nm 6 sc_law.nd)) (fun _ _ _ _ _ => ts_nil) (fun _ _ _ _ _ => (acmp ao_notB (acl D_law_cannot hr (by decide) takes0 (aa_tok 4 (aa_cons (av 6) aa_nil)) (by rfl)) ab (nomark _)))) Tb.any (by rfl)))))).at
      (ss_one (s_ret ab))
      ss_nil)
    (ss_one (s_ret (aand (acmp (ao_eq hu) (acl D_law_doA hr (by decide) tk (aa_tok 4 (aa_cons (atup (aa_cons as (aa_cons as aa_nil))) aa_nil)) (by rfl)) (atup (aa_cons as (aa_cons as aa_nil))) (nomark _)) (aone (acmp (ao_eq hu) (acl D_law_doP hr (by decide) tk (aa_tok 4 (aa_cons (atup (aa_cons as (aa_cons as (aa_cons (atup (aa_cons (atup (aa_cons ai (aa_cons (atup aa_nil) (aa_cons (atup aa_nil) aa_nil)))) aa_nil)) aa_nil)))) aa_nil)) (by rfl)) (atup (aa_cons as (aa_cons as aa_nil))) (nomark _)))))))), fun W ks pk Q G0 w0 hh0 hp0 hQ => ?_⟩
  refine seqI ?_
  refine ⟨rfl, 15, rfl, by omega, by omega, fun d d0 d1 => ⟨⟨by omega, by omega⟩, ?_⟩⟩
  show forA _ _ ((List.range d.toNat).map fun k => D.int (k : Nat)) _ _
  refine forA_inv (fun k : Nat => D.int (k : Nat)) (fun r a => ∃ (N : Nat) (W : Wd) (ks pk : List (Str × D)) (r3 r5 r6 r7 r8 : Option AV), Good N W ∧ N + 4 * r.length ≤ 72 ∧ Held W ks ∧ Held W pk ∧ (∀ y ∈ W.words, y ≠ "q9") ∧ a = ⟨[none, some .rng, some (.im (worldD W pk)), r3, some .stk, r5, r6, r7, r8], some (stk W ks)⟩) ?_ ?_ _ _ ⟨12, W, ks, pk, none, none, none, none, none, G0, by rw [List.length_range]; omega, hh0, hp0, by rw [w0]; exact (fun _ h => nomatch h), rfl⟩
  · rintro k r a N' ⟨N, W, ks, pk, r3, r5, r6, r7, r8, G, hN, hh, hp, hq9, rfl⟩ hN'
    rw [List.length_cons] at hN
    refine ⟨sz3 (n := 11), rfl, 11, rfl, by omega, by omega, fun e1 e10 e11 => ?_⟩
    obtain ⟨kind, hk, hat⟩ := kinds11 e10 e11
    have sk := kinds_ok hk
    refine ⟨.str kind, hat, ?_⟩
    refine ⟨rfl, 6, rfl, by omega, by omega, fun e2 e20 e21 => ?_⟩
    obtain ⟨wx, nq, l1, l2, l3⟩ := wname_ok e20 e21
    refine ⟨l2, Nat.le_trans l3 (sz3 (n := 1000)), ?_⟩
    dsimp only []
    refine seqI ?_
    show sSet 7 _ _ (Ab.A.mk [none, some .rng, some (.im (worldD W pk)), some (.im (.int (k : Nat))), some .stk, some (.im (.str kind)), some (.im (.str (wname e2))), r7, r8] (some (stk W ks)))
    refine rd_deed G hp (by omega) sk fun p hp1 => ?_
    dsimp only []
    refine seqI ?_
    refine rd_bad sk hp1 fun p hp1 => ?_
    dsimp only []
    refine seqI ?_
    obtain ⟨okp, gp⟩ := hp1.ok (N := N)
    generalize wname e2 = x at wx nq l1
    refine ⟨rfl, N, W, pk, kind, x, p, rfl, hp, G, by omega, hk, wx, okp, gp, fun d2 hd => ?_, fun W2 h2 pk2 hpk2 => ?_⟩
    · obtain ⟨hc, ds, rfl⟩ := due_cmp G wx hd
      dsimp only []
      refine seqI ?_
      show sIf _ _ _ _ (Ab.A.mk [none, some .rng, some (.im (worldD W pk)), some (.im (.int (k : Nat))), some .stk, some (.im (.str kind)), some (.im (.str x)), some (.im (deedD kind x p)), some (.im (.tup ds))] (some (stk W ks)))
      refine ⟨rfl, N, W, ks, kind, x, p, rfl, rfl, hh, G, by omega, hk, wx, okp, gp, fun d3 hd3 => ?_, fun W3 h3 => (by rw [hd] at h3; cases h3)⟩
      rw [hd] at hd3; cases hd3
      refine ⟨hc, hc, ?_⟩
      show if (!same (.tup ds) (.tup ds)) = true then _ else _
      rw [same_self]
      refine ⟨rfl, N, W, ks, pk, rfl, rfl, hh, hp, G, by omega, ?_⟩
      exact hN' _ ⟨N, W, ks, pk, _, _, _, _, _, G, by omega, hh, hp, hq9, rfl⟩
    · have G2 := due_good G okp gp wx h2
      have w2 := due_words G h2
      dsimp only []
      refine seqI ?_
      show sIf _ _ _ _ (Ab.A.mk [none, some .rng, some (.im (worldD W pk)), some (.im (.int (k : Nat))), some .stk, some (.im (.str kind)), some (.im (.str x)), some (.im (deedD kind x p)), some (.im (worldD W2 pk2))] (some (stk W ks)))
      refine ⟨rfl, N, W, ks, kind, x, p, rfl, rfl, hh, G, by omega, hk, wx, okp, gp, fun d3 hd3 => (by rw [h2] at hd3; cases hd3), fun W3 h3 ks3 hks3 => ?_⟩
      rw [h2] at h3; cases h3
      refine ⟨rfl, rfl, ?_⟩
      show if (!same .non .non) = true then _ else _
      rw [same_self]
      refine ⟨rfl, N + 4, W2, ks3, pk2, rfl, rfl, hks3, hpk2, G2, by omega, ?_⟩
      refine hN' _ ⟨N + 4, W2, ks3, pk2, _, _, _, _, _, G2, by omega, hks3, hpk2, fun y hy => ?_, rfl⟩
      rcases w2 y hy with z | z
      · exact hq9 y z
      · rw [z]; exact nq
  · rintro a ⟨N, W, ks, pk, r3, r5, r6, r7, r8, G, hN, hh, hp, hq9, rfl⟩
    have hN : N ≤ 100 := by omega
    have few := G.few
    have sz := sizeLine_eq
    have okA : cmp 9 (.str "A") = true := by decide +kernel
    have okn : cmp 9 (.str "none") = true := by decide +kernel
    have ed : cutD (W.words.map D.str) (some (W.many : Int)) none = (W.words.drop W.many).map D.str := by rw [cutD_end (by omega), List.map_drop]; rfl
    have ld : (W.words.drop W.many).length ≤ W.words.length := by rw [List.length_drop]; omega
    dsimp only []
    refine seqI ?_
    generalize hA : Ab.A.mk [none, some AV.rng, some (.im (worldD W pk)), r3, some .stk, r5, r6, r7, r8] (some (stk W ks)) = A0
    refine rd_ifF (a1 := A0) (fun Q2 hQ2 => rd_orF (a1 := A0) (fun Q3 hQ3 => rd_ne (d := .str "A") (a1 := A0) (fun Q hQ => ?_) (fun Q hQ => hQ) okA hQ3) (rd_orF (a1 := A0) (fun Q3 hQ3 => rd_ne (d := .str "none") (a1 := A0) (fun Q hQ => ?_) (fun Q hQ => hQ) okn hQ3) ?_)) ?_
    case refine_1 => subst hA; exact ⟨rfl, N, W, ks, "A", rfl, rfl, hh, G, hN, by decide, fun _ => hQ, fun z => (by rw [word_A] at z; cases z)⟩
    case refine_2 => subst hA; exact ⟨rfl, N, W, ks, "q9", rfl, rfl, hh, G, hN, by decide, fun z => (by rw [show isWord "q9" = true by decide +kernel] at z; cases z), fun _ => ⟨fun _ => hQ, fun z => absurd rfl (hq9 _ z)⟩⟩
    case refine_3 =>
      subst hA
      refine ⟨_, l4_w, _, l4_m, ?_⟩
      show lcA _ _ _ _ (cutD (W.words.map D.str) (some (W.many : Int)) none) _ _ _
      rw [ed]
      refine lcA_inv D.str (fun r a acc => ∃ n : Nat, acc = (List.replicate n false).map D.bl ∧ n + r.length ≤ (W.words.drop W.many).length ∧ (∀ y ∈ r, y ∈ W.words.drop W.many) ∧ a = ⟨[none, some .rng, some (.im (worldD W pk)), r3, some .stk, r5, r6, r7, r8], some (stk W ks)⟩) ?_ ?_ _ _ [] ⟨0, rfl, by simp, fun y hy => hy, rfl⟩
      · rintro y r a acc N' ⟨n, rfl, e1, e2, rfl⟩ hN'
        rw [List.length_cons] at e1
        have hy := e2 y List.mem_cons_self
        obtain ⟨y1, y2, y3⟩ := G.wok y (List.mem_of_mem_drop hy)
        refine ⟨rfl, N, W, ks, y, rfl, rfl, hh, G, hN, by omega, fun z => (by rw [y1] at z; cases z), fun _ => ⟨fun z => absurd (List.mem_of_mem_drop hy) z, fun _ => ?_⟩⟩
        rw [not_applied G hy]
        exact ⟨by rw [List.length_map, List.length_replicate]; omega, hN' _ _ ⟨n + 1, by rw [List.replicate_succ', List.map_append]; rfl, by omega, fun z hz => e2 z (List.mem_cons_of_mem _ hz), rfl⟩⟩
      · rintro a acc ⟨n, rfl, e1, e2, rfl⟩
        refine ⟨List.replicate n false, rfl, ?_⟩
        show Q2 ((List.replicate n false).any id) _
        rw [show (List.replicate n false).any id = false by simp]
        exact hQ2
    subst hA
    have z2 : 2 ≤ sizeLine := sz3
    have z3 : 3 ≤ sizeLine := sz3
    have z1 : 1 ≤ sizeLine := sz3
    refine ⟨z2, rfl, N, W, ks, rfl, rfl, hh, G, hN, z2, by decide +kernel, by decide +kernel, ?_⟩
    show (match D.bl (same (.tup [.str "name", .str "A"]) (.tup [.str "name", .str "A"])) with | .bl true => _ | .bl false => _ | _ => False)
    rw [same_self]
    refine ⟨Nat.zero_le _, Nat.zero_le _, z3, z1, z3, rfl, N, W, ks, rfl, rfl, hh, G, hN, z2, by decide +kernel, by decide +kernel, ?_⟩
    show Q (.bl (same (refD "p9") (refD "p9"))) _
    rw [same_self]
    exact hQ _
end
end Ab


namespace Ab
open PySem L2
abbrev stL (k : Nat) : Stmt := (defBody s_law).getD k (.Pass ⟨0, 0, 0, 0⟩)
theorem body_law : defBody s_law = stL 0 :: stL 1 :: stL 2 :: sRest := rfl
section
variable {P : Program} {w : World} {K : PySem.W.Frag} {mg : Str → Option Value} {base : Heap} {Z : Cl}
section
variable {f : Addr} {cdv : Value} {A : Around} {outer : List Env} {s : Shared} {H : Hp} {E : XK}
/-- state = [0, 0, list(script), 1] -/
theorem law1 (Tb : Blt mg) : ∃ t, PS (cxOf (L2.CX P w) P w K mg base n_law "law" (defScope s_law) f cdv A outer s H E) (stL 0) t ∧ ∀ (Dn : Ends) (σ : St) (H : Hp) (a : Addr) (ns : List Int), σ[0]? = some (some (.ref a)) → SqL K H a (ns.map V.int) →
    (∀ l r, H l = none → r ≠ l → H r = none → Dn.nx (σ.set 1 (some (.ref r))) (upd (upd H l (.lst (ns.map V.int))) r (.lst [.int 0, .int 0, .ref l, .int 1]))) → t Dn σ H := by
  have pv0 : ∀ {pos : Pos}, PE (cxOf (L2.CX P w) P w K mg base n_law "law" (defScope s_law) f cdv A outer s H E) (.Name "script" pos) (tVar 0) := pe_var rfl (.inl rfl)
  refine ⟨_, ps_set sc_law.nd (i := 1) rfl (by first | exact Or.inl rfl | exact Or.inr rfl) (pe_lst (pa_cons pe_int (pa_cons pe_int (pa_cons (pe_callTy call_list_of rfl Tb.list (by decide +kernel) (pa_cons pv0 pa_nil rfl) (by decide) (by decide) rfl rfl) (pa_cons pe_int pa_nil rfl) rfl) rfl) rfl)) rfl (by first | exact .inl rfl | exact .inr rfl), fun Dn σ H a ns h1 h2 h3 => ?_⟩
  refine ⟨.ref a, h1, a, ns.map V.int, rfl, .inl h2, fun l hl => ⟨sz3 (n := 4), fun r hr => ?_⟩⟩
  have hrl : r ≠ l := fun e => by rw [e, upd_same] at hr; cases hr
  exact h3 l r hl hrl (by rw [upd_ne hrl] at hr; exact hr)
/-- world = {..} -/
theorem law2 (Tb : Blt mg) (Ds : Defs P w K mg base Z) (hr : Room 6 (A.deeper (PyProof.Rows.envOfC "law" (defScope s_law) s.heap.objs.size f cdv))) :
    ∃ r, AS (cxOf (L2.CX P w) P w K mg base n_law "law" (defScope s_law) f cdv A outer s H E) Z (fun c d _ H => E c d H) (stL 1) r ∧ ∀ (En : AEnds), (∀ b, okL b → b.length ≤ 12 → En.nx ⟨[none, some .rng, some (.im (worldD (wd0 b) [])), none, none, none, none, none, none], none⟩) →
      r En ⟨[none, some .rng, none, none, none, none, none, none, none], none⟩ := by
  have hp := passes_of (X := cxOf (L2.CX P w) P w K mg base n_law "law" (defScope s_law) f cdv A outer s H E) rfl
  have tk := takes_of (X := cxOf (L2.CX P w) P w K mg base n_law "law" (defScope s_law) f cdv A outer s H E) rfl rfl rfl rfl
  have hu := hu64 hr
  have hu1 := hu2 hr
  have D_law_draw := Ds.draw
  refine ⟨_, (s_set 2 (adisp4 (atpl (alc (own := [("k", 3)]) rfl sc_law.nd (i_r (ao ao_add ai (acl D_law_draw hr (by decide) tk (aa_tok 1 (aa_cons ai aa_nil)) (by rfl))) Tb.range (by rfl)) (blkOk_by (N := n_law) (sc := defScope s_law) (by decide +kernel)) (by decide) (fun _ _ _ _ _ => (g_nm 3 sc_law.nd)) (fun _ _ _ _ _ => ts_nil) (fun _ _ _ _ _ => (ao ao_add (aix as (acl D_law_draw hr (by decide) takes0 (aa_tok 1 (aa_cons ai aa_nil)) (by rfl))) as))) Tb.tuple (by rfl)) (anew (alst aa_nil)) (anew adict0) ai) sc_law.nd), fun En h => ?_⟩
  refine ⟨rfl, 9, rfl, by omega, by omega, fun d d0 d1 => ⟨⟨by omega, by omega⟩, ?_⟩⟩
  show lcA _ _ _ _ ((List.range (4 + d).toNat).map fun k => D.int (k : Nat)) _ _ _
  have sz := sizeLine_eq
  refine lcA_inv (fun k : Nat => D.int (k : Nat)) (fun r a acc' => ∃ (ss : List Str), acc' = ss.map D.str ∧ okL ss ∧ ss.length + r.length ≤ 12 ∧ a = ⟨[none, some .rng, none, none, none, none, none, none, none], none⟩) ?_ ?_ (List.range (4 + d).toNat) _ [] ⟨[], rfl, (fun _ h => nomatch h), by rw [List.length_range]; simp; omega, rfl⟩
  · rintro k r a acc' N' ⟨ss, rfl, os, ls, rfl⟩ hN'
    rw [List.length_cons] at ls
    refine ⟨rfl, 4, rfl, by omega, by omega, fun d4 d40 d41 => ?_⟩
    obtain ⟨c, w1, w2⟩ := abcd d40 d41
    refine ⟨sz3 (n := 4), c, w1, one_len, by rw [List.length_map]; omega, hN' _ _ ⟨ss ++ [(⟨#[c]⟩ : Str) ++ ("\n" : Str)], by rw [List.map_append]; rfl, fun s hs => ?_, by simp; omega, rfl⟩⟩
    rcases List.mem_append.mp hs with z | z
    · exact os s z
    · rw [List.mem_singleton.mp z]; exact w2
  · rintro a acc' ⟨ss, rfl, os, ls, rfl⟩
    simp only [List.length_nil, Nat.add_zero] at ls
    refine ⟨Nat.zero_le _, ?_⟩
    have := h ss os ls
    show En.nx ⟨[none, some .rng, some (.im (.dct (mergeD [] (l4 (strsD ss) (.lst []) (.dct []) (.int 0))))), none, none, none, none, none, none], none⟩
    rw [m4]
    exact this
/-- stack = Stack(world['base']) -/
theorem law3 {fI : Addr} {fdI : FuncData} {k : Nat} (hr : Room k (A.deeper (PyProof.Rows.envOfC "law" (defScope s_law) s.heap.objs.size f cdv))) (hk : 2 ≤ k) (M : L2.Mk K Z.stack fI) (gS : mg "Stack" = some (.ref Z.stack)) (F : FnOk P w K mg base (L2.CX P w) 1 fI fdI ["self", "lines"] (spInit Z)) (hb : Binds K fdI ["self", "lines"] []) :
    ∃ t, PS (cxOf (L2.CX P w) P w K mg base n_law "law" (defScope s_law) f cdv A outer s H E) (stL 2) t ∧ ∀ (Dn : Ends) (σ : St) (H : Hp) (m b : Addr) (ss : List V) (ws : List (Key × V)), σ[2]? = some (some (.ref m)) → H m = some (.dK ws) → valV ws (Sum.inr "base") = some (.ref b) → H b = some (.tup ss) →
      (∀ (x dx w pd : Addr) (H' : Hp), H x = none → H dx = none → dx ≠ x → H w = none → H pd = none → w ≠ pd → w ≠ x → w ≠ dx → pd ≠ x → pd ≠ dx → H' x = some (.ins Z.stack dx (flds (.ref b) (.ref w) (.ref pd) 0)) → H' w = some (.lst []) → H' pd = some (.dK []) → H' dx ≠ none → (∀ z, z ≠ x → z ≠ dx → z ≠ w → z ≠ pd → H' z = H z) → Dn.nx (σ.set 4 (some (.ref x))) H') → t Dn σ H := by
  have hu1 := hu2 hr
  have pv2 : ∀ {pos : Pos}, PE (cxOf (L2.CX P w) P w K mg base n_law "law" (defScope s_law) f cdv A outer s H E) (.Name "world" pos) (tVar 2) := pe_var rfl (by first | exact Or.inl rfl | exact Or.inr (Or.inl rfl) | exact Or.inr (Or.inr rfl))
  refine ⟨_, ps_set sc_law.nd (i := 4) rfl (by first | exact Or.inl rfl | exact Or.inr rfl) (pe_make M F (hr.mono hk) rfl gS hb .nil (passes_call takes0 (fun _ _ _ _ h => h)) (pa_cons (pe_dget hu1 pv2 pe_str (fun _ _ => rfl)) pa_nil rfl) (by decide) rfl rfl) rfl (by first | exact .inl rfl | exact .inr rfl), fun Dn σ H m b ss ws h1 h2 h3 h4 h5 => ?_⟩
  refine ⟨.ref m, h1, m, .ref b, rfl, by rw [← h3]; exact DGet.k (k := Sum.inr "base") h2, fun x dx hx hdx hne => ?_⟩
  have hbx : b ≠ x := fun e => by rw [e, hx] at h4; cases h4
  have hbd : b ≠ dx := fun e => by rw [e, hdx] at h4; cases h4
  refine ⟨x, dx, b, ss, rfl, upd_same, by rw [upd_ne hbx, upd_ne hbd]; exact h4, fun H' w pd hw hpd hwp k1 k2 k3 k4 => ⟨rfl, ?_⟩⟩
  have wx : w ≠ x := fun e => by rw [e, upd_same] at hw; cases hw
  have wd : w ≠ dx := fun e => by rw [e, upd_ne hne, upd_same] at hw; cases hw
  have px : pd ≠ x := fun e => by rw [e, upd_same] at hpd; cases hpd
  have pdd : pd ≠ dx := fun e => by rw [e, upd_ne hne, upd_same] at hpd; cases hpd
  rw [upd_ne wx, upd_ne wd] at hw
  rw [upd_ne px, upd_ne pdd] at hpd
  refine h5 x dx w pd H' hx hdx hne hw hpd hwp wx wd px pdd k1 k2 k3 ?_ fun z z1 z2 z3 z4 => ?_
  · rw [k4 dx hne wd.symm pdd.symm, upd_ne hne, upd_same]; simp
  · rw [k4 z z1 z3 z4, upd_ne z1, upd_ne z2]
end
end
end Ab


namespace Ab
open PySem L2
section
variable {P : Program} {w : World} {K : PySem.W.Frag} {mg : Str → Option Value} {base : Heap} {Z : Cl}
theorem none_ne {H : Hp} {a b : Addr} (h : H a = none) (k : H b ≠ none) : b ≠ a := fun e => k (by rw [e]; exact h)
theorem ok_law {f : Addr} {fd : FuncData} (Fn : Fun K "law" "law" s_law f fd) (Tb : Blt mg) (Ds : Defs P w K mg base Z) {fI : Addr} {fdI : FuncData} (M : L2.Mk K Z.stack fI) (gS : mg "Stack" = some (.ref Z.stack)) (FI : FnOk P w K mg base (L2.CX P w) 1 fI fdI ["self", "lines"] (spInit Z)) (hb : Binds K fdI ["self", "lines"] []) :
    FnOk P w K mg base (L2.CX P w) 7 f fd ["script"] (spLaw K Z) := by
  refine Fn.okX sc_law (fun vs H Q E h => ?_) fun cdv A outer s H vs Q E hr h => ?_
  · obtain ⟨a, ns, rfl, _⟩ := h; rfl
  obtain ⟨t1, p1, h1⟩ := law1 (P := P) (w := w) (K := K) (mg := mg) (base := base) (f := f) (cdv := cdv) (A := A) (outer := outer) (s := s) (H := H) (E := E) Tb
  obtain ⟨r2, d2, h2⟩ := law2 (f := f) (cdv := cdv) (A := A) (outer := outer) (s := s) (H := H) (E := E) Tb Ds hr
  obtain ⟨t2, p2, q2⟩ := d2.ex
  obtain ⟨t3, p3, h3⟩ := law3 (P := P) (w := w) (base := base) (outer := outer) (H := H) (E := E) hr (by decide) M gS FI hb
  obtain ⟨r4, d4, h4⟩ := der_rest (outer := outer) (H := H) (E := E) Tb Ds hr
  obtain ⟨t4, p4, q4⟩ := d4.ex
  refine ⟨_, (by rw [body_law]; exact pss_cons p1 (pss_cons p2 (pss_cons p3 p4))), ?_⟩
  obtain ⟨a, ns, rfl, hS, hT, hQ⟩ := h
  refine h1 _ _ _ a ns rfl hS fun l r hl hrl hr0 => ?_
  -- the state's list stands
  generalize hH1 : upd (upd H l (.lst (ns.map V.int))) r (.lst [.int 0, .int 0, .ref l, .int 1]) = H1
  have H1r : H1 r = some (.lst [.int 0, .int 0, .ref l, .int 1]) := by rw [← hH1, upd_same]
  have H1l : H1 l = some (.lst (ns.map V.int)) := by rw [← hH1, upd_ne hrl.symm, upd_same]
  have H1t : ∀ t, t ∈ Z.tabs → GxR.TabG H1 t ∧ t ≠ l ∧ t ≠ r := fun t ht => by
    obtain ⟨ps, c1, c2⟩ := hT t ht
    have tl : t ≠ l := fun e => by rw [e, hl] at c1; cases c1
    have tr : t ≠ r := fun e => by rw [e, hr0] at c1; cases c1
    exact ⟨⟨ps, by rw [← hH1, upd_ne tr, upd_ne tl]; exact c1, c2⟩, tl, tr⟩
  let G1 : Hp := fun z => if z = l then some (.lst (ns.map V.int)) else none
  have G1l : G1 l = some (.lst (ns.map V.int)) := if_pos rfl
  have G1n : ∀ z, z ≠ l → G1 z = none := fun z hz => if_neg hz
  let B1 : Base := ⟨H1, G1, none, 0, some r, G1⟩
  have R1 : RelS Z B1 H1 G1 none := by
    refine ⟨fun z o hz => ?_, Ex.refl _, fun z hz => .inl hz, fun z hz => hz, fun z o hz _ => hz, rfl, fun z hz => ?_, (fun q hq => by cases hq), fun t ht => ?_⟩
    · by_cases e : z = l
      · subst e; rw [G1l] at hz; cases hz; exact H1l
      · rw [G1n z e] at hz; cases hz
    · cases hz
      exact ⟨⟨0, 0, 1, l, ns, H1r, G1n r hrl, G1l, Int.le_refl 0⟩, by show H1 r ≠ none; rw [H1r]; simp⟩
    · obtain ⟨c1, c2, c3⟩ := H1t t ht
      refine ⟨c1, G1n t c2, ?_⟩
      obtain ⟨ps, c4, _⟩ := c1
      show H1 t ≠ none
      rw [c4]; simp
  have X1 : Rel Z B1 ((L2.start n_law [.ref a]).set 1 (some (.ref r))) H1 G1 ⟨[none, some .rng, none, none, none, none, none, none, none], none⟩ := by
    have no : ∀ {i : Nat} {x : AV}, ([none, some .rng, none, none, none, none, none, none, none] : List (Option AV))[i]? = some (some x) → i = 1 ∧ x = .rng := fun {i x} h => by
      match i, h with
      | 0, h => cases h
      | 1, h => cases h; exact ⟨rfl, rfl⟩
      | 2, h => cases h
      | 3, h => cases h
      | 4, h => cases h
      | 5, h => cases h
      | 6, h => cases h
      | 7, h => cases h
      | 8, h => cases h
      | i + 9, h => simp at h
    refine ⟨R1, rfl, fun i x hi => ?_, fun i j p x y _ hi hx => ?_, Ex.refl _⟩
    · obtain ⟨rfl, rfl⟩ := no hi
      exact ⟨.ref r, rfl, r, rfl, rfl⟩
    · obtain ⟨rfl, rfl⟩ := no hi
      cases hx
  refine q2 B1 _ H1 G1 _ _ { nx := fun a => ∃ b, okL b ∧ b.length ≤ 12 ∧ a = ⟨[none, some .rng, some (.im (worldD (wd0 b) [])), none, none, none, none, none, none], none⟩, rt := fun _ _ => False, ex := E0A } X1 (fun _ _ _ _ _ _ _ _ h => h.elim) ⟨fun σ2 H2 G2 a2 X2 ha2 => ?_, fun _ _ _ _ _ _ _ _ h => h.elim, fun _ _ _ _ _ h => h.elim, fun _ _ _ _ _ h => h.elim⟩ (h2 _ fun b ob lb => ⟨b, ob, lb, rfl⟩)
  obtain ⟨b, ob, lb, rfl⟩ := ha2
  obtain ⟨v, e1, m, ws, rfl, e2, e3⟩ := X2.sl 2 _ rfl
  obtain ⟨vb, e4, e5⟩ := e3.some (k := "base") l4_b
  obtain ⟨ba, ss, rfl, e6, e7⟩ := e5
  refine h3 _ σ2 H2 m ba ss ws e1 (X2.gh _ _ e2) e4 (X2.gh _ _ e6) fun x dx wl pd H3 nx ndx nxd nw npd nwp nwx nwd npx npdd k1 k2 k3 k4 k5 => ?_
  -- the stack stands
  have old : ∀ z, H2 z ≠ none → H3 z = H2 z := fun z hz => k5 z (none_ne nx hz) (none_ne ndx hz) (none_ne nw hz) (none_ne npd hz)
  have gw : G2 wl = none := X2.gh.free nw
  have gx : G2 x = none := X2.gh.free nx
  have gp : G2 pd = none := X2.gh.free npd
  let G3 : Hp := upd G2 wl (.lst [])
  have E23 : Ex G2 G3 := Ex.new gw
  let B3 : Base := ⟨H3, G3, some x, pd, some r, G3⟩
  obtain ⟨⟨i0, i1, i3, sl, ns2, u1, u2, u3, u4⟩, _⟩ := X2.rn r rfl
  have R3 : RelS Z B3 H3 G3 (some (stk (wd0 b) [])) := by
    refine ⟨fun z o hz => ?_, Ex.refl _, fun z hz => .inl hz, fun z hz => hz, fun z o hz _ => hz, ?_, fun z hz => ?_, fun q hq => ?_, fun t ht => ?_⟩
    · by_cases e : z = wl
      · subst e; rw [show G3 z = some (.lst []) from upd_same] at hz; cases hz; exact k2
      · rw [show G3 z = G2 z from upd_ne e] at hz
        have := X2.gh z o hz
        rw [old z (by rw [this]; simp)]; exact this
    · refine ⟨x, pd, rfl, ⟨dx, .ref ba, .ref wl, [], k1, k3, ?_, ?_, ?_, ?_, rfl⟩, .inl rfl⟩
      · show upd G2 wl _ x = none
        rw [upd_ne nwx.symm]; exact gx
      · show upd G2 wl _ pd = none
        rw [upd_ne nwp.symm]; exact gp
      · exact R.mono E23 ⟨ba, ss, rfl, e6, e7⟩
      · exact ⟨wl, [], rfl, upd_same, rfl⟩
    · cases hz
      refine ⟨⟨i0, i1, i3, sl, ns2, by rw [old r (by rw [u1]; simp)]; exact u1, ?_, E23 _ _ u3, u4⟩, ?_⟩
      · show upd G2 wl _ r = none
        rw [upd_ne (fun e => by rw [e, nw] at u1; cases u1)]; exact u2
      · show H3 r ≠ none
        rw [old r (by rw [u1]; simp), u1]; simp
    · cases hq
      show H3 x ≠ none
      rw [k1]; simp
    · obtain ⟨⟨ps, c1, c2⟩, c3, c4⟩ := X2.tb t ht
      have c5 := old t (by rw [c1]; simp)
      refine ⟨⟨ps, by rw [c5]; exact c1, c2⟩, ?_, ?_⟩
      · show upd G2 wl _ t = none
        rw [upd_ne (fun e => by rw [e, nw] at c1; cases c1)]; exact c3
      · show H3 t ≠ none
        rw [c5, c1]; simp
  have X3 : Rel Z B3 (σ2.set 4 (some (.ref x))) H3 G3 ⟨[none, some .rng, some (.im (worldD (wd0 b) [])), none, some .stk, none, none, none, none], some (stk (wd0 b) [])⟩ := by
    have no : ∀ {i : Nat} {x : AV}, ([none, some .rng, some (.im (worldD (wd0 b) [])), none, some .stk, none, none, none, none] : List (Option AV))[i]? = some (some x) → (i = 1 ∧ x = .rng) ∨ (i = 2 ∧ x = .im (worldD (wd0 b) [])) ∨ (i = 4 ∧ x = .stk) := fun {i x} h => by
      match i, h with
      | 0, h => cases h
      | 1, h => cases h; exact .inl ⟨rfl, rfl⟩
      | 2, h => cases h; exact .inr (.inl ⟨rfl, rfl⟩)
      | 3, h => cases h
      | 4, h => cases h; exact .inr (.inr ⟨rfl, rfl⟩)
      | 5, h => cases h
      | 6, h => cases h
      | 7, h => cases h
      | 8, h => cases h
      | i + 9, h => simp at h
    have len2 : σ2.length = 9 := X2.len
    refine ⟨R3, by rw [List.length_set, len2]; rfl, fun i y hi => ?_, fun i j p y z _ hi hy => ?_, Ex.refl _⟩
    · rcases no hi with ⟨rfl, rfl⟩ | ⟨rfl, rfl⟩ | ⟨rfl, rfl⟩
      · obtain ⟨v, c1, r', c2, rfl⟩ := X2.sl 1 _ rfl
        cases c2
        exact ⟨.ref r, by rw [List.getElem?_set_ne (by decide)]; exact c1, r, rfl, rfl⟩
      · exact ⟨.ref m, by rw [List.getElem?_set_ne (by decide)]; exact e1, R.mono E23 ⟨m, ws, rfl, e2, e3⟩⟩
      · exact ⟨.ref x, by rw [List.getElem?_set_self (by omega)], x, rfl, rfl⟩
    · rcases no hi with ⟨rfl, rfl⟩ | ⟨rfl, rfl⟩ | ⟨rfl, rfl⟩ <;> cases hy
  refine q4 B3 _ H3 G3 _ _ (endA (fun _ _ => False) fun d _ => d = .bl true) X3 (fun _ _ _ _ _ _ _ _ h => h.elim) ⟨fun σ H G a rl hq => ?_, fun d v σ H G a rl hv hq => ?_, fun _ _ _ _ _ z => z.elim, fun _ _ _ _ _ z => z.elim⟩ (h4 (wd0 b) [] [] _ (wd0_good ob lb) rfl held0 held0 fun S => rfl)
  · cases (show D.non = .bl true from hq)
  · have hq : d = .bl true := hq
    subst hq
    have hv : v = .bl true := hv
    subst hv
    exact hQ _
end
end Ab


namespace Ab
open PySem PySem.Spec PyProof.Rows L2 He PySem.HandSPX
/-! ### own errors: what the head's heap tells -/
structure ErrD where
  x : Str
  fld : Str
  qual : Str
  st : Stmt
abbrev FnE : Type := Option (Str × Str × Arguments × FuncBody × Scope × Addr × List Str × Value × Value × Addr)
def errV (K : PySem.W.Frag) (e : ErrD) : FnE := match K.lookup (ma K (ga K e.x) "__init__") with
  | some ⟨_, _, .func fd, _⟩ => some (fd.name, fd.qualname, fd.params, fd.body, fd.scope, fd.globals, fd.closure.map (·.1), fd.defaults, fd.kwdefaults, fd.builtins)
  | _ => none
def ErrD.val (e : ErrD) : FnE := some ("__init__", e.qual, defArgs e.st, .stmts (defBody e.st), defScope e.st, mainGlobals, ["__class__"], .none, .none, builtinsNs)
def errC (K : PySem.W.Frag) (C : Addr) : Bool := match K.lookup C with
  | some ⟨.type c, _, .cls cd, sl⟩ => (match cd.mro, sl.toList with
    | .ref C' :: bm, [_, _, _, _, some (.builtin n), _] => decide (c = "type") && (decide (C' = C) && (decide (n = "ValueError.__new__") && (!cd.hasDel && (cd.hasDict && refsVE bm))))
    | _, _ => false)
  | _ => false
theorem errC_ok {K : PySem.W.Frag} {C : Addr} (h : errC K C = true) : ∃ nm q N bs bm sn sub ab col dd k0 k1 k2 k3 k5, K.lookup C = some (excClassObj nm q C N bs bm true sn sub ab col dd k0 k1 k2 k3 k5 "ValueError.__new__") ∧ refsVE bm = true := by
  unfold errC at h
  cases q : K.lookup C with
  | none => rw [q] at h; cases h
  | some o =>
    rw [q] at h
    obtain ⟨oc, od, dt, sl⟩ := o
    cases oc with
    | type c =>
      cases dt with
      | cls cd =>
        obtain ⟨nm, bs, mro, ns, qn, hd, sn, sub, ab, col, hdel⟩ := cd
        obtain ⟨sl⟩ := sl
        cases mro with
        | nil => cases h
        | cons a bm =>
          cases a with
          | ref C' =>
            match sl, h with
            | [k0, k1, k2, k3, some (.builtin n), k5], h =>
              obtain ⟨h1, h⟩ := ba h
              obtain ⟨h2, h⟩ := ba h
              obtain ⟨h3, h⟩ := ba h
              obtain ⟨h4, h⟩ := ba h
              obtain ⟨h5, h6⟩ := ba h
              have h1 := of_decide_eq_true h1
              have h2 := of_decide_eq_true h2
              have h3 := of_decide_eq_true h3
              have h4 : hdel = false := by cases hdel <;> simp_all
              have h5 : hd = true := h5
              subst h1; subst h2; subst h3; subst h4; subst h5
              exact ⟨nm, qn, ns, bs, bm, sn, sub, ab, col, od, k0, k1, k2, k3, k5, rfl, h6⟩
          | _ => cases h
      | _ => cases h
    | _ => cases dt <;> cases h
def errF (P : Program) (K : PySem.W.Frag) (C fI : Addr) (qual : Str) : Bool := match K.lookup fI with
  | some ⟨_, _, .func fd, _⟩ => PySem.W.codeIn K fd.code qual && ((match fd.code with
    | .ref cda => (match K.lookup cda with
      | some ⟨_, _, .fields vs, _⟩ => (match (vs[2]? : Option Value) with
        | some (.str file _) => ((P.main.file : Str) == file)
        | _ => false)
      | _ => false)
    | _ => false) && (match fd.closure with
      | [(_, cc)] => (match K.lookup cc with
        | some ⟨_, _, .cell (some (.ref C')), _⟩ => decide (C' = C)
        | _ => false)
      | _ => false))
  | _ => false
def errB (P : Program) (K : PySem.W.Frag) (e : ErrD) : Bool :=
  errC K (ga K e.x) && (eqO (PySem.W.findIn K (.ref (ga K e.x)) "__setattr__") (some (some (.builtin "object.__setattr__"))) && (eqO (PySem.W.findIn K (.ref (ga K e.x)) "__getattribute__") (some (some (.builtin "BaseException.__getattribute__"))) && (eqO (PySem.W.findIn K (.ref (ga K e.x)) "__getattr__") (some none) &&
  (eqO (PySem.W.findIn K (.ref (ga K e.x)) e.fld) (some none) && (eqO (PySem.W.findIn K (.ref (ga K e.x)) "__init__") (some (some (.ref (ma K (ga K e.x) "__init__")))) && (decide (PySem.W.typeIn K (.ref (ma K (ga K e.x) "__init__")) = some (.type "function")) && (PySem.W.keepIn K (.ref (ga K e.x)) &&
  (decide (PySem.W.subIn K (.ref (ga K e.x)) (.type "BaseException") = some true) && (decide (PySem.W.typeIn K (.ref (ga K e.x)) = some (.type "type")) && (PySem.W.hasDictIn K (ga K e.x) && (eqO (PySem.W.ks_superIn K (ga K e.x) (ga K e.x) "__init__") (some (some (.builtin "ValueError.__init__"))) &&
  (decide (PySem.W.subIn K (.ref (ga K e.x)) (.type "ValueError") = some true) && (decide (PySem.W.mroIn K (ga K e.x) (.ref (ga K e.x)) = some true) && (eqO (PySem.W.nsIn K cStatics "thirdparty.any") (some none) && errF P K (ga K e.x) (ma K (ga K e.x) "__init__") e.qual))))))))))))))
theorem err_ok {P : Program} {K : PySem.W.Frag} {mg : Str → Option Value} {e : ErrD} (b : errB P K e = true) (v : errV K e = e.val) (g : mg e.x = some (.ref (ga K e.x))) (te : PySem.W.exmOne K (.ref (ga K e.x)) (.ref (ga K e.x)) = some true) (ns : mg "super" = none) (ht : (P.main.scope.names.lookup ("super" : Str)).isSome = false)
    {msg : Str} {j : Nat} {p1 p2 r0 r1 r2 r3 r4 r5 q1 q2 q3 q4 : Pos} (ea : defArgs e.st = PySem.Vx.vA e.fld p1 p2) (eb : defBody e.st = PySem.Vx.vB e.fld msg j r0 r1 r2 r3 r4 r5 q1 q2 q3 q4) (es : defScope e.st = PySem.Vx.vS e.fld) (ck : PySem.Vx.CallOk e.fld msg j r0 r1 r2 r3 r4) :
    PySem.Vx.ErrTxt P K mg e.x e.fld e.qual (ga K e.x) (ma K (ga K e.x) "__init__") := by
  obtain ⟨b1, b⟩ := ba b
  obtain ⟨b2, b⟩ := ba b
  obtain ⟨b3, b⟩ := ba b
  obtain ⟨b4, b⟩ := ba b
  obtain ⟨b5, b⟩ := ba b
  obtain ⟨b6, b⟩ := ba b
  obtain ⟨b7, b⟩ := ba b
  obtain ⟨b8, b⟩ := ba b
  obtain ⟨b9, b⟩ := ba b
  obtain ⟨b10, b⟩ := ba b
  obtain ⟨b11, b⟩ := ba b
  obtain ⟨b12, b⟩ := ba b
  obtain ⟨b13, b⟩ := ba b
  obtain ⟨b14, b⟩ := ba b
  obtain ⟨b15, b⟩ := ba b
  refine ⟨g, errC_ok b1, eqO_ok b2, eqO_ok b3, eqO_ok b4, eqO_ok b5, eqO_ok b6, of_decide_eq_true b7, b8, of_decide_eq_true b9, of_decide_eq_true b10, b11, te, eqO_ok b12, of_decide_eq_true b13, of_decide_eq_true b14, ns, eqO_ok b15, ht, ?_⟩
  unfold errF at b
  unfold errV at v
  cases q : K.lookup (ma K (ga K e.x) "__init__") with
  | none => rw [q] at b; cases b
  | some o =>
    obtain ⟨oc, od, dt, osl⟩ := o
    rw [q] at b v
    cases dt with
    | func fd =>
      obtain ⟨n1, n2, n3, n4, n5, n6, n7, n8, n9, n10, n11, n12, n13, n14, n15⟩ := fd
      have v2 : (some (n1, n2, n3, n4, n5, n6, n7.map (·.1), n8, n9, n15) : FnE) = e.val := v
      unfold ErrD.val at v2
      simp only [Option.some.injEq, Prod.mk.injEq] at v2
      obtain ⟨h1, h2, h3, h4, h5, h6, h7, h8, h9, h10⟩ := v2
      obtain ⟨b1, b⟩ := ba b
      obtain ⟨b2, b3⟩ := ba b
      have b1 : PySem.W.codeIn K n13 e.qual = true := b1
      match n7, h7, b3 with
      | [(y, cc)], h7, b3 =>
        have h7 : y = "__class__" := by simpa using h7
        subst h7
        have b5 : (match K.lookup cc with
          | some ⟨_, _, .cell (some (.ref C')), _⟩ => decide (C' = ga K e.x)
          | _ => false) = true := b3
        clear b3
        obtain ⟨cda, rfl⟩ := codeIn_ref b1
        have b6 : (match K.lookup cda with
          | some ⟨_, _, .fields vs, _⟩ => (match (vs[2]? : Option Value) with
            | some (.str file _) => ((P.main.file : Str) == file)
            | _ => false)
          | _ => false) = true := b2
        clear b2
        cases w2 : K.lookup cda with
        | none => rw [w2] at b6; cases b6
        | some o2 =>
          obtain ⟨ccl, cdd, dt2, ccs⟩ := o2
          rw [w2] at b6
          cases dt2 with
          | fields vs =>
            have b7 : (match (vs[2]? : Option Value) with
              | some (.str file _) => ((P.main.file : Str) == file)
              | _ => false) = true := b6
            cases w3 : vs[2]? with
            | none => rw [w3] at b7; cases b7
            | some u =>
              rw [w3] at b7
              cases u with
              | str file tf =>
                cases w4 : K.lookup cc with
                | none => rw [w4] at b5; cases b5
                | some o3 =>
                  obtain ⟨cl, cld, dt3, csl⟩ := o3
                  rw [w4] at b5
                  cases dt3 with
                  | cell v3 =>
                    cases v3 with
                    | none => cases b5
                    | some v3 =>
                      cases v3 with
                      | ref C' =>
                        have e3 : C' = ga K e.x := of_decide_eq_true b5
                        subst e3
                        subst h1 h2 h3 h4 h5 h6 h8 h9 h10
                        exact ⟨msg, j, oc, n10, n11, n14, ccl, cl, od, n12, cdd, cld, cda, cc, osl, ccs, csl, vs, file, tf, p1, p2, r0, r1, r2, r3, r4, r5, q1, q2, q3, q4, by rw [ea, eb, es], b1, w2, w3, b7, w4, ck⟩
                      | _ => cases b5
                  | _ => cases b5
              | _ => cases b7
          | _ => cases b6
    | _ => cases b
end Ab


namespace Ab
open PySem PySem.Spec PyProof.Rows L2 He PySem.HandSPX
/-! ### the head's Hook: HeadHook4's, with the facts of own errors -/
def frZ (n : Nat) (g : Addr → Option Obj) : PySem.W.Frag := frT g (cStatics :: asD g n)
structure SaysZ (P : Program) (fa : List Fa) (fn : List DefD) (es : List ErrD) (tf : List Defn) (h : Heap) (K : PySem.W.Frag) : Prop where
  t : SaysD fa fn K
  ev : es.map (errV K) = es.map ErrD.val
  eb : es.all (errB P K) = true
  hd : ∀ p ∈ tf, PySem.W.codeHdIn K (cT K p).1 (cT K p).2 = true
  out : ∀ p ∈ tf, K.lookup (cT K p).2 = none
  empty : ∀ p ∈ tf, h.get? (cT K p).2 = some { cls := .none, data := .fields #[] }
abbrev AlZ : Type := AlD × List FnE × Bool
def obsZ (P : Program) (n : Nat) (fa : List Fa) (fn : List DefD) (es : List ErrD) (tf : List Defn) (g : Addr → Option Obj) : AlZ :=
  (obsD fa fn (frZ n g), es.map (errV (frZ n g)), es.all (errB P (frZ n g)) && tabsB g tf (frZ n g))
def valZ (fn : List DefD) (es : List ErrD) : AlZ := (valD fn, es.map ErrD.val, true)
theorem saysZ_of {P : Program} {n : Nat} {fa : List Fa} {fn : List DefD} {es : List ErrD} {tf : List Defn} {h : Heap} (e : obsZ P n fa fn es tf h.get? = valZ fn es) : SaysZ P fa fn es tf h (frZ n h.get?) := by
  have e1 : obsD fa fn (frZ n h.get?) = valD fn := congrArg (fun z : AlZ => z.1) e
  have e2 : es.map (errV (frZ n h.get?)) = es.map ErrD.val := congrArg (fun z : AlZ => z.2.1) e
  have e3 : (es.all (errB P (frZ n h.get?)) && tabsB h.get? tf (frZ n h.get?)) = true := congrArg (fun z : AlZ => z.2.2) e
  obtain ⟨h1, h2⟩ := ba e3
  have key : ∀ p ∈ tf, PySem.W.codeHdIn (frZ n h.get?) (cT (frZ n h.get?) p).1 (cT (frZ n h.get?) p).2 = true ∧ ∃ o, h.get? (cT (frZ n h.get?) p).2 = some o ∧ emptyTab o = true := fun p hp => by
    obtain ⟨h3, h4⟩ := ba (List.all_eq_true.mp h2 p hp)
    refine ⟨h3, ?_⟩
    cases q : h.get? (cT (frZ n h.get?) p).2 with
    | none =>
      rw [q] at h4
      cases h4
    | some o =>
      rw [q] at h4
      exact ⟨o, rfl, h4⟩
  exact ⟨e1, e2, h1, fun p hp => (key p hp).1, fun p hp => by
    obtain ⟨_, o, q, z⟩ := key p hp
    exact frT_none q z, fun p hp => by
    obtain ⟨_, o, q, z⟩ := key p hp
    rw [q, emptyTab_eq z]⟩
def hookZ (P : Program) (n : Nat) (fa : List Fa) (fn : List DefD) (es : List ErrD) (tf : List Defn) : PySem.W.Hook where
  α := AlZ
  obs := fun s => obsZ P n fa fn es tf s.heap.get?
  val := fun _ => valZ fn es
  says := fun _ h => ∃ K : PySem.W.Frag, K.In h ∧ SaysZ P fa fn es tf h K
  of := fun _ _ e => ⟨_, frT_in, saysZ_of e⟩
  keeps := fun _ _ _ ⟨K, hK, c⟩ k => ⟨K, PySem.W.Frag.In.keeps hK k, ⟨c.t, c.ev, c.eb, c.hd, c.out, fun p hp => k _ _ (c.empty p hp)⟩⟩
theorem obsZ_eq {P : Program} {n : Nat} {fa : List Fa} {fn : List DefD} {es : List ErrD} {tf : List Defn} {g : Addr → Option Obj} {s : Shared} (h : ∀ a, g a = s.heap.get? a) : obsZ P n fa fn es tf g = (hookZ P n fa fn es tf).obs s := by
  have e : g = s.heap.get? := funext h
  rw [e] <;> rfl
theorem SaysZ.errs {P : Program} {fa : List Fa} {fn : List DefD} {es : List ErrD} {tf : List Defn} {h : Heap} {K : PySem.W.Frag} (c : SaysZ P fa fn es tf h K) {e : ErrD} (he : e ∈ es) : errB P K e = true ∧ errV K e = e.val := by
  refine ⟨List.all_eq_true.mp c.eb e he, ?_⟩
  obtain ⟨i, hi, rfl⟩ := List.mem_iff_getElem.mp he
  have e2 : (es.map (errV K))[i]? = (es.map ErrD.val)[i]? := by rw [c.ev]
  rw [List.getElem?_map, List.getElem?_map, List.getElem?_eq_getElem hi] at e2
  exact Option.some.inj e2
/-! ### this program's data -/
def dG (x : Str) (st : Stmt) : DefD := ⟨(x, none), x, x, defArgs st, defBody st, defScope st, [], []⟩
def dM (m q : Str) (st : Stmt) : DefD := ⟨("Stack", some m), m, q, defArgs st, defBody st, defScope st, [], []⟩
def fns : List DefD := [dG "is_patch" (top 7), dG "put_on" (top 8), dG "turned_back" (top 9), dG "place_after" (top 10), dG "do_touch" (top 11), dG "carried" (top 12), dG "commuted" (top 13), dG "joined" (top 14), dG "spans_between" (top 15), dG "within" (top 16), dG "lines_between" (top 17), dG "rewritten" (top 18), dG "is_word" (top 22), dG "depends_on" (top 25), dG "past_all" (top 26), dG "undone_lines" (top 27)] ++
  [dG "_law_draw" (top 29), dG "_law_change" (top 30), dG "_law_apply" (top 31), dG "_law_over" (top 32), dG "_law_back" (top 33), dG "_law_swapped" (top 34), dG "_law_lines_with" (top 35), dG "_law_swap" (top 36), dG "_law_float" (top 37), dG "_law_rebase" (top 38), dG "_law_due" (top 39), dG "_law_do" (top 40), dG "_law_hangs" (top 41), dG "_law_looked" (top 42), dG "_law_cannot" (top 43), dG "law" (top 44)] ++
  [dM "__init__" "Stack.__init__" (inClass (top 24) 0), dM "lines" "Stack.lines" (inClass (top 24) 1), dM "check" "Stack.check" (inClass (top 24) 2), dM "add" "Stack.add" (inClass (top 24) 3), dM "pop" "Stack.pop" (inClass (top 24) 4), dM "push" "Stack.push" (inClass (top 24) 5), dM "swap" "Stack.swap" (inClass (top 24) 6), dM "sink" "Stack.sink" (inClass (top 24) 7), dM "can_swap" "Stack.can_swap" (inClass (top 24) 8), dM "float_off" "Stack.float_off" (inClass (top 24) 9), dM "fold" "Stack.fold" (inClass (top 24) 10), dM "rebase" "Stack.rebase" (inClass (top 24) 11), dM "applied" "Stack.applied" (inClass (top 24) 12), dM "waiting" "Stack.waiting" (inClass (top 24) 13), dM "patch" "Stack.patch" (inClass (top 24) 14), dM "whole" "Stack.whole" (inClass (top 24) 15)]
def gloN : List Str := (["is_patch", "put_on", "turned_back", "place_after", "do_touch", "carried", "commuted", "joined", "spans_between", "within", "lines_between", "rewritten", "is_word", "depends_on", "past_all", "undone_lines"] : List Str) ++ (["_law_draw", "_law_change", "_law_apply", "_law_over", "_law_back", "_law_swapped", "_law_lines_with", "_law_swap", "_law_float", "_law_rebase", "_law_due", "_law_do", "_law_hangs", "_law_looked", "_law_cannot", "law"] : List Str) ++ (["NoSuch", "InvalidName", "Conflict", "Refused", "Stack"] : List Str)
def freeN : List Str := ["len", "tuple", "isinstance", "all", "any", "enumerate", "range", "sorted", "max", "list", "dict", "reversed", "int", "bool", "str", "super"]
def methN : List Str := ["lines", "check", "add", "pop", "push", "swap", "sink", "can_swap", "float_off", "fold", "rebase", "applied", "waiting", "patch", "whole"]
def exmN : List (Str × Str × Bool) := [("NoSuch", "NoSuch", true), ("Refused", "NoSuch", false), ("Refused", "Refused", true), ("Conflict", "NoSuch", false), ("Conflict", "Refused", false), ("Conflict", "Conflict", true), ("InvalidName", "NoSuch", false), ("InvalidName", "Refused", false), ("InvalidName", "Conflict", false), ("InvalidName", "InvalidName", true), ("NoSuch", "InvalidName", false)]
def fas : List Fa := gloN.map .glo ++ (freeN.map .free ++ (methN.map (.meth "Stack") ++ (exmN.map (fun q => .exm q.1 q.2.1 q.2.2) ++ [.str "SMALL" smallS, .str "DIGITS" digitS, .cls "Stack", .noat "Stack" "base", .noat "Stack" "words", .noat "Stack" "patches", .noat "Stack" "many", .mkr "Stack", .exc "NoSuch"])))
def erN : ErrD := ⟨"InvalidName", "name", "InvalidName.__init__", inClass (top 3) 0⟩
def erC : ErrD := ⟨"Conflict", "paths", "Conflict.__init__", inClass (top 4) 0⟩
def erR : ErrD := ⟨"Refused", "branch", "Refused.__init__", inClass (top 5) 0⟩
def ers : List ErrD := [erN, erC, erR]
def tfs : List Defn := [("is_patch", none), ("is_word", none)]
abbrev PP : Program := (PySem.Challenge.rw_versionkept_k29_stacks_of_patches).prog
abbrev RR : PySem.W.OpenRow := PySem.W.OpenLaw.row PySem.Challenge.rw_versionkept_k29_stacks_of_patches
abbrev hkZ : PySem.W.Hook := hookZ PP 5 fas fns ers tfs
def obS (s : PySem.W.SharedT) : AlZ := obsZ PP 5 fas fns ers tfs (HandSHeadRun.getT s)
theorem obS_eq (s : PySem.W.SharedT) : obS s = hkZ.obs s.abs := obsZ_eq (HandSHeadRun.getT_eq s)
def looseN : List Str := (["VersionkeptError", "NoSuch", "InvalidName", "Conflict", "Refused", "is_patch", "put_on", "turned_back", "place_after", "do_touch", "carried", "commuted", "joined", "spans_between", "within", "lines_between", "rewritten", "SMALL", "DIGITS", "is_word"] : List Str) ++ (["Stack", "depends_on", "past_all", "undone_lines", "_law_draw", "_law_change", "_law_apply", "_law_over", "_law_back", "_law_swapped", "_law_lines_with", "_law_swap", "_law_float", "_law_rebase", "_law_due", "_law_do", "_law_hangs", "_law_looked", "_law_cannot"] : List Str)
end Ab


namespace Ab
open PySem PySem.Spec PyProof.Rows L2 He PySem.HandSPX
theorem top_run (w : World) : HandSHeadRun.RunEq RR (PySem.W.view RR.prog [44]) hkZ obS 4000 looseN w := by
  intro os
  kernel_rfl
end Ab


namespace Ab
open PySem PySem.Spec PyProof.Rows L2 He PySem.HandSPX
/-! ### the head's facts as the walks take them -/
section
variable {P : Program} {w : World} {K : PySem.W.Frag} {mg : Str → Option Value} {base h : Heap} {Z : Cl} {x y m q : Str} {st : Stmt} {n k j i : Nat} {F : FD} {ps : List Str}
theorem Dfn.up (d : Dfn P w K mg base Z k x n F) (hk : k ≤ j) : Dfn P w K mg base Z j x n F := by
  obtain ⟨f, fd, ps, h1, h2⟩ := d.ex
  exact ⟨⟨f, fd, ps, h1.mono hk, h2⟩⟩
theorem Mtd.up (d : Mtd P w K mg base Z k x n F) (hk : k ≤ j) : Mtd P w K mg base Z j x n F := by
  obtain ⟨f, fd, ps, h1, h2⟩ := d.ex
  exact ⟨⟨f, fd, ps, h1.mono hk, h2⟩⟩
theorem fun_of {f : Addr} {fd : FuncData} {kws : List (Str × V)} (G : FunD K x q (defArgs st) (defBody st) (defScope st) [] kws f fd) : Fun K x q st f fd := by
  obtain ⟨⟨oc, od, dV, kV, doc, pm, an, cdv, ct, osl, e, lk, hcd, hD, _⟩, kp⟩ := G
  rcases hD with ⟨_, rfl⟩ | ⟨e, _⟩
  · exact ⟨⟨oc, od, kV, doc, pm, an, cdv, ct, osl, e, lk, hcd⟩, kp⟩
  · exact absurd rfl e
theorem funC_of {fd : FuncData} {p : Str × Option Str} (G : Fun K x q st (fAd K p) fd) : FunC K x q st (fAd K p) fd (codeOf K p) := by
  obtain ⟨⟨oc, od, kV, doc, pm, an, cdv, ct, osl, e, lk, hcd⟩, kp⟩ := G
  obtain ⟨c, rfl⟩ := codeIn_ref hcd
  have ec : codeOf K p = c := codeOf_eq lk (by rw [e])
  rw [ec]
  exact ⟨⟨oc, od, kV, doc, pm, an, ct, osl, e, lk, hcd⟩, kp⟩
abbrev Sz (h : Heap) (K : PySem.W.Frag) : Prop := SaysZ PP fas fns ers tfs h K
def Zof (K : PySem.W.Frag) : Cl := ⟨ga K "Stack", ga K "NoSuch", ga K "Conflict", ga K "Refused", ga K "InvalidName", [(cT K ("is_patch", none)).2, (cT K ("is_word", none)).2]⟩
theorem SaysZ.fn (c : Sz h K) (i : Nat) (e : fns[i]? = some (dG x st)) : ∃ fd, Fun K x x st (ga K x) fd := by
  obtain ⟨fd, d⟩ := SaysD.def_ c.t i e
  exact ⟨fd, fun_of d⟩
theorem SaysZ.fnC (c : Sz h K) (i : Nat) (e : fns[i]? = some (dG x st)) : ∃ fd, FunC K x x st (ga K x) fd (cT K (x, none)).1 := by
  obtain ⟨fd, d⟩ := c.fn i e
  exact ⟨fd, funC_of (p := (x, none)) d⟩
theorem SaysZ.met (c : Sz h K) (i : Nat) (e : fns[i]? = some (dM m q st)) : ∃ fd, Fun K m q st (ma K (ga K "Stack") m) fd := by
  obtain ⟨fd, d⟩ := SaysD.def_ c.t i e
  exact ⟨fd, fun_of d⟩
theorem glo_of (X : K.In h) (G : h.Ns mainGlobals mg) (c : Sz h K) (i : Nat) (e : gloN[i]? = some x) : mg x = some (.ref (ga K x)) :=
  glo_ok X G (SaysD.facts c.t (List.mem_append_left _ (List.mem_map.mpr ⟨x, List.mem_of_getElem? e, rfl⟩)))
theorem free_of (X : K.In h) (G : h.Ns mainGlobals mg) (c : Sz h K) (i : Nat) (e : freeN[i]? = some x) : mg x = none :=
  free_ok X G (SaysD.facts c.t (List.mem_append_right _ (List.mem_append_left _ (List.mem_map.mpr ⟨x, List.mem_of_getElem? e, rfl⟩))))
theorem meth_of (c : Sz h K) (i : Nat) (e : methN[i]? = some m) : Meth K (ga K "Stack") m (ma K (ga K "Stack") m) :=
  meth_ok (SaysD.facts c.t (List.mem_append_right _ (List.mem_append_right _ (List.mem_append_left _ (List.mem_map.mpr ⟨m, List.mem_of_getElem? e, rfl⟩)))))
theorem exm_of (c : Sz h K) {b : Bool} (i : Nat) (e : exmN[i]? = some (x, y, b)) : PySem.W.exmOne K (.ref (ga K x)) (.ref (ga K y)) = some b :=
  exm_ok (SaysD.facts c.t (List.mem_append_right _ (List.mem_append_right _ (List.mem_append_right _ (List.mem_append_left _ (List.mem_map.mpr ⟨(x, y, b), List.mem_of_getElem? e, rfl⟩))))))
def lastF : List Fa := [.str "SMALL" smallS, .str "DIGITS" digitS, .cls "Stack", .noat "Stack" "base", .noat "Stack" "words", .noat "Stack" "patches", .noat "Stack" "many", .mkr "Stack", .exc "NoSuch"]
theorem last_of (c : Sz h K) {f : Fa} (i : Nat) (e : lastF[i]? = some f) : f.ok K = true :=
  SaysD.facts c.t (List.mem_append_right _ (List.mem_append_right _ (List.mem_append_right _ (List.mem_append_right _ (List.mem_of_getElem? e)))))
theorem D_mk {fA : Addr} (hf : ∃ fd, Fun K x x st fA fd) (g : mg x = some (.ref fA)) (ok : ∀ fd, Fun K x x st fA fd → FnOk PP w K mg base (L2.CX PP w) k fA fd ps (spA Z n F))
    (b : ∀ (kV doc pm : Value) (an : Option Addr) (cdv ct : Value) (us : List Value), us.length = ps.length → bindArgs (PySem.W.fnOf x x (defArgs st) (defBody st) (defScope st) .none kV doc pm an cdv ct) ⟨us, []⟩ = pure (ps.zip us)) : Dfn PP w K mg base Z k x n F := by
  obtain ⟨fd, Fn⟩ := hf
  exact ⟨⟨fA, fd, ps, ok fd Fn, g, Fn.kp, Fn.binds b⟩⟩
theorem D_mkC {fA cA : Addr} (hf : ∃ fd, FunC K x x st fA fd cA) (g : mg x = some (.ref fA)) (ok : ∀ fd, FunC K x x st fA fd cA → FnOk PP w K mg base (L2.CX PP w) k fA fd ps (spA Z n F))
    (b : ∀ (kV doc pm : Value) (an : Option Addr) (cdv ct : Value) (us : List Value), us.length = ps.length → bindArgs (PySem.W.fnOf x x (defArgs st) (defBody st) (defScope st) .none kV doc pm an cdv ct) ⟨us, []⟩ = pure (ps.zip us)) : Dfn PP w K mg base Z k x n F := by
  obtain ⟨fd, Fn⟩ := hf
  refine ⟨⟨fA, fd, ps, ok fd Fn, g, Fn.kp, ?_⟩⟩
  obtain ⟨oc, od, kV, doc, pm, an, ct, osl, rfl, lk, hcd⟩ := Fn.ex
  exact Binds.all (b kV doc pm an _ ct)
theorem M_mk {fA : Addr} (hf : ∃ fd, Fun K m q st fA fd) (g : Meth K Z.stack m fA) (ok : ∀ fd, Fun K m q st fA fd → FnOk PP w K mg base (L2.CX PP w) k fA fd ps (spA Z n F))
    (b : ∀ (kV doc pm : Value) (an : Option Addr) (cdv ct : Value) (us : List Value), us.length = ps.length → bindArgs (PySem.W.fnOf m q (defArgs st) (defBody st) (defScope st) .none kV doc pm an cdv ct) ⟨us, []⟩ = pure (ps.zip us)) : Mtd PP w K mg base Z k m n F := by
  obtain ⟨fd, Fn⟩ := hf
  exact ⟨⟨fA, fd, ps, ok fd Fn, g, Fn.binds b⟩⟩
theorem blt_of (X : K.In h) (G : h.Ns mainGlobals mg) (c : Sz h K) : Blt mg :=
  ⟨free_of X G c 0 rfl, free_of X G c 1 rfl, free_of X G c 2 rfl, free_of X G c 3 rfl, free_of X G c 4 rfl, free_of X G c 5 rfl, free_of X G c 6 rfl, free_of X G c 7 rfl, free_of X G c 8 rfl, free_of X G c 9 rfl, free_of X G c 10 rfl, free_of X G c 11 rfl, free_of X G c 12 rfl, free_of X G c 13 rfl, free_of X G c 14 rfl⟩
theorem stk_of (c : Sz h K) : StkTxt K (Zof K) :=
  ⟨cls_ok (last_of c (f := .cls "Stack") 2 rfl), noat_ok (last_of c (f := .noat "Stack" "base") 3 rfl), noat_ok (last_of c (f := .noat "Stack" "words") 4 rfl), noat_ok (last_of c (f := .noat "Stack" "patches") 5 rfl), noat_ok (last_of c (f := .noat "Stack" "many") 6 rfl)⟩
theorem catch_of (c : Sz h K) : Catch K (Zof K) :=
  ⟨exm_of c 0 rfl, exm_of c 1 rfl, exm_of c 2 rfl, exm_of c 3 rfl, exm_of c 4 rfl, exm_of c 5 rfl, exm_of c 6 rfl, exm_of c 7 rfl, exm_of c 8 rfl, exm_of c 9 rfl, exm_of c 10 rfl⟩
theorem consts_of (X : K.In h) (G : h.Ns mainGlobals mg) (c : Sz h K) : ∃ tS tD, Consts mg tS tD := by
  obtain ⟨tS, e1⟩ := str_ok X G (last_of c (f := .str "SMALL" smallS) 0 rfl)
  obtain ⟨tD, e2⟩ := str_ok X G (last_of c (f := .str "DIGITS" digitS) 1 rfl)
  exact ⟨tS, tD, e1, e2⟩
theorem no_super : (PP.main.scope.names.lookup ("super" : Str)).isSome = false := by kernel_rfl
theorem errs_of (X : K.In h) (G : h.Ns mainGlobals mg) (c : Sz h K) : Errs PP K mg (Zof K) := by
  obtain ⟨e1, e2, e3, e4⟩ := exc_ok (last_of c (f := .exc "NoSuch") 8 rfl)
  obtain ⟨n1, n2⟩ := c.errs (e := erN) (List.mem_of_getElem? (i := 0) rfl)
  obtain ⟨c1, c2⟩ := c.errs (e := erC) (List.mem_of_getElem? (i := 1) rfl)
  obtain ⟨r1, r2⟩ := c.errs (e := erR) (List.mem_of_getElem? (i := 2) rfl)
  have ns : mg "super" = none := free_of X G c 15 rfl
  refine ⟨e1, glo_of X G c 32 rfl, e2, e3, e4, ⟨_, _, err_ok c1 c2 (glo_of X G c 34 rfl) (exm_of c 5 rfl) ns no_super rfl rfl rfl ⟨_, fun env => rfl⟩⟩, ⟨_, _, err_ok r1 r2 (glo_of X G c 35 rfl) (exm_of c 2 rfl) ns no_super rfl rfl rfl ⟨_, fun env => rfl⟩⟩, ⟨_, _, err_ok n1 n2 (glo_of X G c 33 rfl) (exm_of c 9 rfl) ns no_super rfl rfl rfl ⟨_, fun env => rfl⟩⟩⟩
theorem law_of (X : K.In h) (G : h.Ns mainGlobals mg) (c : Sz h K) (TBis_patch : GxR.TabB base mg (cT K ("is_patch", none)).1 (cT K ("is_patch", none)).2) (TBis_word : GxR.TabB base mg (cT K ("is_word", none)).1 (cT K ("is_word", none)).2) {fd : FuncData} (Fn : Fun K "law" "law" s_law (ga K "law") fd) :
    FnOk PP w K mg base (L2.CX PP w) 7 (ga K "law") fd ["script"] (spLaw K (Zof K)) := by
  have Tb := blt_of X G c
  have Te := errs_of X G c
  have Ts := stk_of c
  have Ca := catch_of c
  obtain ⟨tS, tD, Tg⟩ := consts_of X G c
  have hPis_patch : (cT K ("is_patch", none)).2 ∈ (Zof K).tabs := List.mem_cons_self
  have hPis_word : (cT K ("is_word", none)).2 ∈ (Zof K).tabs := List.mem_cons_of_mem _ List.mem_cons_self
  have v_turned : Dfn PP w K mg base (Zof K) 1 "turned_back" 1 fTurned := D_mk (ps := ["patch"]) (c.fn 2 (x := "turned_back") (st := (top 9)) rfl) (glo_of X G c 2 rfl) (fun fd Fn => ok_turned Fn Tb) (fun _ _ _ _ _ _ us hl => match us, hl with | [_], _ => rfl)
  have v_put_on : Dfn PP w K mg base (Zof K) 1 "put_on" 2 fPutOn := D_mk (ps := ["lines", "patch"]) (c.fn 1 (x := "put_on") (st := (top 8)) rfl) (glo_of X G c 1 rfl) (fun fd Fn => ok_put_on Fn Tb Te) (fun _ _ _ _ _ _ us hl => match us, hl with | [_, _], _ => rfl)
  have v_place_after : Dfn PP w K mg base (Zof K) 1 "place_after" 2 fPlace := D_mk (ps := ["patch", "place"]) (c.fn 3 (x := "place_after") (st := (top 10)) rfl) (glo_of X G c 3 rfl) (fun fd Fn => ok_place_after Fn Tb) (fun _ _ _ _ _ _ us hl => match us, hl with | [_, _], _ => rfl)
  have v_do_touch : Dfn PP w K mg base (Zof K) 1 "do_touch" 2 fTouch := D_mk (ps := ["one", "two"]) (c.fn 4 (x := "do_touch") (st := (top 11)) rfl) (glo_of X G c 4 rfl) (fun fd Fn => ok_do_touch Fn Tb) (fun _ _ _ _ _ _ us hl => match us, hl with | [_, _], _ => rfl)
  have v_carried : Dfn PP w K mg base (Zof K) 2 "carried" 2 fCarried := D_mk (ps := ["patch", "over"]) (c.fn 5 (x := "carried") (st := (top 12)) rfl) (glo_of X G c 5 rfl) (fun fd Fn => ok_carried Fn Tb v_do_touch v_place_after) (fun _ _ _ _ _ _ us hl => match us, hl with | [_, _], _ => rfl)
  have v_commuted : Dfn PP w K mg base (Zof K) 3 "commuted" 2 fCommuted := D_mk (ps := ["first", "second"]) (c.fn 6 (x := "commuted") (st := (top 13)) rfl) (glo_of X G c 6 rfl) (fun fd Fn => ok_commuted Fn v_turned v_carried) (fun _ _ _ _ _ _ us hl => match us, hl with | [_, _], _ => rfl)
  have v_within : Dfn PP w K mg base (Zof K) 1 "within" 3 fWithin := D_mk (ps := ["patch", "low", "high"]) (c.fn 9 (x := "within") (st := (top 16)) rfl) (glo_of X G c 9 rfl) (fun fd Fn => ok_within Fn Tb) (fun _ _ _ _ _ _ us hl => match us, hl with | [_, _, _], _ => rfl)
  have v_spans_between : Dfn PP w K mg base (Zof K) 1 "spans_between" 2 fSpans := D_mk (ps := ["one", "two"]) (c.fn 8 (x := "spans_between") (st := (top 15)) rfl) (glo_of X G c 8 rfl) (fun fd Fn => ok_spans_between Fn Tb) (fun _ _ _ _ _ _ us hl => match us, hl with | [_, _], _ => rfl)
  have v_lines_between : Dfn PP w K mg base (Zof K) 1 "lines_between" 3 fLinesB := D_mk (ps := ["hunks", "low", "high"]) (c.fn 10 (x := "lines_between") (st := (top 17)) rfl) (glo_of X G c 10 rfl) (fun fd Fn => ok_lines_between Fn Tb) (fun _ _ _ _ _ _ us hl => match us, hl with | [_, _, _], _ => rfl)
  have v_rewritten : Dfn PP w K mg base (Zof K) 1 "rewritten" 3 fRewr := D_mk (ps := ["lines", "low", "hunks"]) (c.fn 11 (x := "rewritten") (st := (top 18)) rfl) (glo_of X G c 11 rfl) (fun fd Fn => ok_rewritten Fn Tb) (fun _ _ _ _ _ _ us hl => match us, hl with | [_, _, _], _ => rfl)
  have v_joined : Dfn PP w K mg base (Zof K) 2 "joined" 2 fJoined := D_mk (ps := ["first", "second"]) (c.fn 7 (x := "joined") (st := (top 14)) rfl) (glo_of X G c 7 rfl) (fun fd Fn => ok_joined Fn Tb Te v_turned v_spans_between v_within v_lines_between v_rewritten) (fun _ _ _ _ _ _ us hl => match us, hl with | [_, _], _ => rfl)
  have v_is_word : Dfn PP w K mg base (Zof K) 1 "is_word" 1 fIsWord := D_mkC (ps := ["value"]) (c.fnC 12 (x := "is_word") (st := (top 22)) rfl) (glo_of X G c 12 rfl) (fun fd Fn => ok_is_word Fn TBis_word hPis_word Tb Tg) (fun _ _ _ _ _ _ us hl => match us, hl with | [_], _ => rfl)
  have v_is_patch : Dfn PP w K mg base (Zof K) 1 "is_patch" 1 fIsPatch := D_mkC (ps := ["value"]) (c.fnC 0 (x := "is_patch") (st := (top 7)) rfl) (glo_of X G c 0 rfl) (fun fd Fn => ok_is_patch Fn TBis_patch hPis_patch Tb) (fun _ _ _ _ _ _ us hl => match us, hl with | [_], _ => rfl)
  have v_applied : Mtd PP w K mg base (Zof K) 1 "applied" 1 fAppliedS := M_mk (ps := ["self"]) (c.met 44 (m := "applied") (q := "Stack.applied") (st := (inClass (top 24) 12)) rfl) (meth_of c 11 rfl) (fun fd Fn => ok_applied Fn Tb Ts) (fun _ _ _ _ _ _ us hl => match us, hl with | [_], _ => rfl)
  have v_appliedX : Mtd PP w K mg base (Zof K) 1 "applied" 1 fAppliedX := M_mk (ps := ["self"]) (c.met 44 (m := "applied") (q := "Stack.applied") (st := (inClass (top 24) 12)) rfl) (meth_of c 11 rfl) (fun fd Fn => ok_appliedX Fn Tb Ts) (fun _ _ _ _ _ _ us hl => match us, hl with | [_], _ => rfl)
  have v_waiting : Mtd PP w K mg base (Zof K) 1 "waiting" 1 fWaitingS := M_mk (ps := ["self"]) (c.met 45 (m := "waiting") (q := "Stack.waiting") (st := (inClass (top 24) 13)) rfl) (meth_of c 12 rfl) (fun fd Fn => ok_waiting Fn Tb Ts) (fun _ _ _ _ _ _ us hl => match us, hl with | [_], _ => rfl)
  have v_lines : Mtd PP w K mg base (Zof K) 2 "lines" 1 fLinesS := M_mk (ps := ["self"]) (c.met 33 (m := "lines") (q := "Stack.lines") (st := (inClass (top 24) 1)) rfl) (meth_of c 0 rfl) (fun fd Fn => ok_lines Fn Tb Ts v_put_on) (fun _ _ _ _ _ _ us hl => match us, hl with | [_], _ => rfl)
  have v_check : Mtd PP w K mg base (Zof K) 2 "check" 2 fCheck := M_mk (ps := ["self", "word"]) (c.met 34 (m := "check") (q := "Stack.check") (st := (inClass (top 24) 2)) rfl) (meth_of c 1 rfl) (fun fd Fn => ok_check Fn Tb Te Ts v_is_word) (fun _ _ _ _ _ _ us hl => match us, hl with | [_, _], _ => rfl)
  have v_pop : Mtd PP w K mg base (Zof K) 1 "pop" 1 fPop := M_mk (ps := ["self"]) (c.met 36 (m := "pop") (q := "Stack.pop") (st := (inClass (top 24) 4)) rfl) (meth_of c 3 rfl) (fun fd Fn => ok_pop Fn Te Ts) (fun _ _ _ _ _ _ us hl => match us, hl with | [_], _ => rfl)
  have v_push : Mtd PP w K mg base (Zof K) 3 "push" 1 fPush := M_mk (ps := ["self"]) (c.met 37 (m := "push") (q := "Stack.push") (st := (inClass (top 24) 5)) rfl) (meth_of c 4 rfl) (fun fd Fn => ok_push Fn Tb Te Ts v_put_on v_lines) (fun _ _ _ _ _ _ us hl => match us, hl with | [_], _ => rfl)
  have v_patch : Mtd PP w K mg base (Zof K) 3 "patch" 2 fPatchS := M_mk (ps := ["self", "word"]) (c.met 46 (m := "patch") (q := "Stack.patch") (st := (inClass (top 24) 14)) rfl) (meth_of c 13 rfl) (fun fd Fn => ok_patch Fn Ts v_check) (fun _ _ _ _ _ _ us hl => match us, hl with | [_, _], _ => rfl)
  have v_add : Mtd PP w K mg base (Zof K) 3 "add" 3 fAddS := M_mk (ps := ["self", "word", "patch"]) (c.met 35 (m := "add") (q := "Stack.add") (st := (inClass (top 24) 3)) rfl) (meth_of c 2 rfl) (fun fd Fn => ok_add Fn Tb Te Ts v_put_on v_is_word v_is_patch v_lines) (fun _ _ _ _ _ _ us hl => match us, hl with | [_, _, _], _ => rfl)
  have v_can_swap : Mtd PP w K mg base (Zof K) 4 "can_swap" 2 fCanS := M_mk (ps := ["self", "word"]) (c.met 40 (m := "can_swap") (q := "Stack.can_swap") (st := (inClass (top 24) 8)) rfl) (meth_of c 7 rfl) (fun fd Fn => ok_can_swap Fn Tb Te Ts v_check v_commuted) (fun _ _ _ _ _ _ us hl => match us, hl with | [_, _], _ => rfl)
  have v_swap : Mtd PP w K mg base (Zof K) 4 "swap" 2 fSwapS := M_mk (ps := ["self", "word"]) (c.met 38 (m := "swap") (q := "Stack.swap") (st := (inClass (top 24) 6)) rfl) (meth_of c 5 rfl) (fun fd Fn => ok_swap Fn Tb Te Ts v_check v_commuted) (fun _ _ _ _ _ _ us hl => match us, hl with | [_, _], _ => rfl)
  have v_whole : Mtd PP w K mg base (Zof K) 3 "whole" 1 fWholeS := M_mk (ps := ["self"]) (c.met 47 (m := "whole") (q := "Stack.whole") (st := (inClass (top 24) 15)) rfl) (meth_of c 14 rfl) (fun fd Fn => ok_whole Fn Ts v_joined) (fun _ _ _ _ _ _ us hl => match us, hl with | [_], _ => rfl)
  have v_sink : Mtd PP w K mg base (Zof K) 5 "sink" 2 fSinkS := M_mk (ps := ["self", "word"]) (c.met 39 (m := "sink") (q := "Stack.sink") (st := (inClass (top 24) 7)) rfl) (meth_of c 6 rfl) (fun fd Fn => ok_sink Fn Tb Te Ts v_check v_can_swap v_swap) (fun _ _ _ _ _ _ us hl => match us, hl with | [_, _], _ => rfl)
  have v_float_off : Mtd PP w K mg base (Zof K) 5 "float_off" 2 fFloatS := M_mk (ps := ["self", "word"]) (c.met 41 (m := "float_off") (q := "Stack.float_off") (st := (inClass (top 24) 9)) rfl) (meth_of c 8 rfl) (fun fd Fn => ok_float_off Fn Tb Te Ts v_check v_can_swap v_swap) (fun _ _ _ _ _ _ us hl => match us, hl with | [_, _], _ => rfl)
  have v_fold : Mtd PP w K mg base (Zof K) 4 "fold" 2 fFoldS := M_mk (ps := ["self", "word"]) (c.met 42 (m := "fold") (q := "Stack.fold") (st := (inClass (top 24) 10)) rfl) (meth_of c 9 rfl) (fun fd Fn => ok_fold Fn Tb Te Ts v_check v_joined) (fun _ _ _ _ _ _ us hl => match us, hl with | [_, _], _ => rfl)
  have v_rebase : Mtd PP w K mg base (Zof K) 3 "rebase" 2 fRebS := M_mk (ps := ["self", "patch"]) (c.met 43 (m := "rebase") (q := "Stack.rebase") (st := (inClass (top 24) 11)) rfl) (meth_of c 10 rfl) (fun fd Fn => ok_rebase Fn Tb Te Ts v_put_on v_carried) (fun _ _ _ _ _ _ us hl => match us, hl with | [_, _], _ => rfl)
  have v_undone_lines : Dfn PP w K mg base (Zof K) 4 "undone_lines" 1 fUndone := D_mk (ps := ["stack"]) (c.fn 15 (x := "undone_lines") (st := (top 27)) rfl) (glo_of X G c 15 rfl) (fun fd Fn => ok_undone_lines Fn Tb Ts v_put_on v_turned v_lines v_applied v_patch) (fun _ _ _ _ _ _ us hl => match us, hl with | [_], _ => rfl)
  have v_past_all : Dfn PP w K mg base (Zof K) 4 "past_all" 2 fPast := D_mk (ps := ["patch", "rows"]) (c.fn 14 (x := "past_all") (st := (top 26)) rfl) (glo_of X G c 14 rfl) (fun fd Fn => ok_past_all Fn Tb v_commuted) (fun _ _ _ _ _ _ us hl => match us, hl with | [_, _], _ => rfl)
  have v_depends_on : Dfn PP w K mg base (Zof K) 5 "depends_on" 2 fDepends := D_mk (ps := ["stack", "word"]) (c.fn 13 (x := "depends_on") (st := (top 25)) rfl) (glo_of X G c 13 rfl) (fun fd Fn => ok_depends_on Fn Tb Ts v_check v_past_all) (fun _ _ _ _ _ _ us hl => match us, hl with | [_, _], _ => rfl)
  have v_l_apply : Dfn PP w K mg base (Zof K) 1 "_law_apply" 2 fApply := D_mk (ps := ["lines", "patch"]) (c.fn 18 (x := "_law_apply") (st := (top 31)) rfl) (glo_of X G c 18 rfl) (fun fd Fn => ok_l_apply Fn Tb) (fun _ _ _ _ _ _ us hl => match us, hl with | [_, _], _ => rfl)
  have v_l_over : Dfn PP w K mg base (Zof K) 1 "_law_over" 2 fOver := D_mk (ps := ["patch", "over"]) (c.fn 19 (x := "_law_over") (st := (top 32)) rfl) (glo_of X G c 19 rfl) (fun fd Fn => ok_l_over Fn Tb) (fun _ _ _ _ _ _ us hl => match us, hl with | [_, _], _ => rfl)
  have v_l_back : Dfn PP w K mg base (Zof K) 1 "_law_back" 1 fTurned := D_mk (ps := ["patch"]) (c.fn 20 (x := "_law_back") (st := (top 33)) rfl) (glo_of X G c 20 rfl) (fun fd Fn => ok_l_back Fn Tb) (fun _ _ _ _ _ _ us hl => match us, hl with | [_], _ => rfl)
  have v_l_swapped : Dfn PP w K mg base (Zof K) 2 "_law_swapped" 2 fSwapped := D_mk (ps := ["first", "second"]) (c.fn 21 (x := "_law_swapped") (st := (top 34)) rfl) (glo_of X G c 21 rfl) (fun fd Fn => ok_l_swapped Fn v_l_over v_l_back) (fun _ _ _ _ _ _ us hl => match us, hl with | [_, _], _ => rfl)
  have v_l_lines : Dfn PP w K mg base (Zof K) 2 "_law_lines_with" 1 fLinesW := D_mk (ps := ["world"]) (c.fn 22 (x := "_law_lines_with") (st := (top 35)) rfl) (glo_of X G c 22 rfl) (fun fd Fn => ok_l_lines Fn v_l_apply) (fun _ _ _ _ _ _ us hl => match us, hl with | [_], _ => rfl)
  have v_l_swap : Dfn PP w K mg base (Zof K) 3 "_law_swap" 2 fSwapW := D_mk (ps := ["world", "word"]) (c.fn 23 (x := "_law_swap") (st := (top 36)) rfl) (glo_of X G c 23 rfl) (fun fd Fn => ok_l_swap Fn Tb v_l_swapped) (fun _ _ _ _ _ _ us hl => match us, hl with | [_, _], _ => rfl)
  have v_l_float : Dfn PP w K mg base (Zof K) 4 "_law_float" 2 fFloatW := D_mk (ps := ["world", "word"]) (c.fn 24 (x := "_law_float") (st := (top 37)) rfl) (glo_of X G c 24 rfl) (fun fd Fn => ok_l_float Fn Tb v_l_swap) (fun _ _ _ _ _ _ us hl => match us, hl with | [_, _], _ => rfl)
  have v_l_rebase : Dfn PP w K mg base (Zof K) 2 "_law_rebase" 2 fRebW := D_mk (ps := ["world", "patch"]) (c.fn 25 (x := "_law_rebase") (st := (top 38)) rfl) (glo_of X G c 25 rfl) (fun fd Fn => ok_l_rebase Fn Tb v_l_apply v_l_over) (fun _ _ _ _ _ _ us hl => match us, hl with | [_, _], _ => rfl)
  have v_l_due : Dfn PP w K mg base (Zof K) 5 "_law_due" 2 fDue := D_mk (ps := ["world", "deed"]) (c.fn 26 (x := "_law_due") (st := (top 39)) rfl) (glo_of X G c 26 rfl) (fun fd Fn => ok_l_due Fn Tb v_l_apply (v_l_lines.up (by decide)) (v_l_rebase.up (by decide)) (v_l_swap.up (by decide)) v_l_float (v_joined.up (by decide))) (fun _ _ _ _ _ _ us hl => match us, hl with | [_, _], _ => rfl)
  have v_l_draw : Dfn PP w K mg base (Zof K) 1 "_law_draw" 2 fDraw := D_mk (ps := ["state", "limit"]) (c.fn 16 (x := "_law_draw") (st := (top 29)) rfl) (glo_of X G c 16 rfl) (fun fd Fn => ok_l_draw Fn Tb) (fun _ _ _ _ _ _ us hl => match us, hl with | [_, _], _ => rfl)
  have v_l_change : Dfn PP w K mg base (Zof K) 2 "_law_change" 2 fChange := D_mk (ps := ["state", "lines"]) (c.fn 17 (x := "_law_change") (st := (top 30)) rfl) (glo_of X G c 17 rfl) (fun fd Fn => ok_l_change Fn Tb v_l_draw) (fun _ _ _ _ _ _ us hl => match us, hl with | [_, _], _ => rfl)
  have v_l_hangs : Dfn PP w K mg base (Zof K) 5 "_law_hangs" 2 fHangs := D_mk (ps := ["world", "word"]) (c.fn 28 (x := "_law_hangs") (st := (top 41)) rfl) (glo_of X G c 28 rfl) (fun fd Fn => ok_l_hangs Fn Tb v_l_swapped v_past_all) (fun _ _ _ _ _ _ us hl => match us, hl with | [_, _], _ => rfl)
  have v_l_cannot : Dfn PP w K mg base (Zof K) 5 "_law_cannot" 2 fCannot := D_mk (ps := ["stack", "word"]) (c.fn 30 (x := "_law_cannot") (st := (top 43)) rfl) (glo_of X G c 30 rfl) (fun fd Fn => ok_l_cannot Fn Tb Te Ts Ca v_can_swap) (fun _ _ _ _ _ _ us hl => match us, hl with | [_, _], _ => rfl)
  have v_l_do : Dfn PP w K mg base (Zof K) 6 "_law_do" 2 fDo := D_mk (ps := ["stack", "deed"]) (c.fn 27 (x := "_law_do") (st := (top 40)) rfl) (glo_of X G c 27 rfl) (fun fd Fn => ok_l_do Fn Tb Te Ts Ca v_appliedX v_waiting v_pop v_push v_rebase v_add v_swap v_float_off v_sink v_fold) (fun _ _ _ _ _ _ us hl => match us, hl with | [_, _], _ => rfl)
  have v_l_doA : Dfn PP w K mg base (Zof K) 6 "_law_do" 2 fDoA := D_mk (ps := ["stack", "deed"]) (c.fn 27 (x := "_law_do") (st := (top 40)) rfl) (glo_of X G c 27 rfl) (fun fd Fn => ok_l_doA Fn Tb Te Ts Ca v_appliedX v_waiting v_pop v_push v_rebase v_add v_swap v_float_off v_sink v_fold) (fun _ _ _ _ _ _ us hl => match us, hl with | [_, _], _ => rfl)
  have v_l_doP : Dfn PP w K mg base (Zof K) 6 "_law_do" 2 fDoP := D_mk (ps := ["stack", "deed"]) (c.fn 27 (x := "_law_do") (st := (top 40)) rfl) (glo_of X G c 27 rfl) (fun fd Fn => ok_l_doP Fn Tb Te Ts Ca v_appliedX v_waiting v_pop v_push v_rebase v_add v_swap v_float_off v_sink v_fold) (fun _ _ _ _ _ _ us hl => match us, hl with | [_, _], _ => rfl)
  have v_l_looked : Dfn PP w K mg base (Zof K) 6 "_law_looked" 3 fLooked := D_mk (ps := ["state", "stack", "world"]) (c.fn 29 (x := "_law_looked") (st := (top 42)) rfl) (glo_of X G c 29 rfl) (fun fd Fn => ok_l_looked Fn Tb Ts (v_l_lines.up (by decide)) v_lines v_applied v_waiting (v_undone_lines.up (by decide)) v_patch v_l_apply v_whole v_l_draw v_depends_on v_l_hangs v_l_swapped v_can_swap) (fun _ _ _ _ _ _ us hl => match us, hl with | [_, _, _], _ => rfl)
  have Ds : Defs PP w K mg base (Zof K) := ⟨v_l_draw, v_l_change, (v_l_lines.up (by decide)), v_l_due, v_l_do, v_l_doA, v_l_doP, v_l_looked, v_l_cannot⟩
  obtain ⟨fdI, FnI⟩ := c.met 32 (m := "__init__") (q := "Stack.__init__") (st := inClass (top 24) 0) rfl
  exact ok_law Fn Tb Ds (mkr_ok (last_of c (f := .mkr "Stack") 7 rfl)) (glo_of X G c 36 rfl) (ok_init FnI Tb Ts) (FnI.binds fun _ _ _ _ _ _ us hl => match us, hl with | [_, _], _ => rfl)
end
end Ab


namespace Ab
open PySem PySem.Spec PyProof.Rows L2 He PySem.HandSPX
theorem law_at {w : World} {mg : Str → Option Value} {fa : Addr} {h : Heap} (Y : hkZ.says w h) (G : h.Ns mainGlobals mg) (hmg : mg ("law" : Str) = some (.ref fa)) :
    ∃ K : PySem.W.Frag, K.In h ∧ LamX.LawAtS PySem.Challenge.rw_versionkept_k29_stacks_of_patches w K (L2.CX PP w) 7 63 "script" mg fa h := by
  obtain ⟨K, X, c⟩ := Y
  refine ⟨K, X, ?_⟩
  obtain ⟨fd, Fd⟩ := SaysD.def_ c.t 31 (d := dG "law" (top 44)) rfl
  have e := hmg.symm.trans (glo_of X G c 31 rfl)
  cases e
  have b := FunD.bindsA (ps := ["script"]) Fd fun _ _ _ _ _ _ us hl => match us, hl with | [_], _ => rfl
  refine ⟨fd, tfs.map (cT K), spLaw K (Zof K), fun p hp => ?_, fun p hp => ?_, fun p hp => ?_, fun s v => b s [v] rfl, fun H a ns hl _ hH hS => ⟨a, ns, rfl, hS, fun t ht => ?_, fun _ => rfl⟩, fun base hK hG hT => ?_⟩
  · obtain ⟨q, hq, rfl⟩ := List.mem_map.mp hp
    exact c.empty q hq
  · obtain ⟨q, hq, rfl⟩ := List.mem_map.mp hp
    exact c.out q hq
  · obtain ⟨q, hq, rfl⟩ := List.mem_map.mp hp
    exact PySem.W.codeHd_of_K X (c.hd q hq)
  · have : ∃ p ∈ tfs.map (cT K), p.2 = t := by
      rcases List.mem_cons.mp ht with z | z
      · exact ⟨_, List.mem_cons_self, z.symm⟩
      · rcases List.mem_cons.mp z with z | z
        · exact ⟨_, List.mem_cons_of_mem _ List.mem_cons_self, z.symm⟩
        · cases z
    obtain ⟨p, hp, rfl⟩ := this
    exact ⟨#[], hH p hp, by first | trivial | simp [PySem.W.TriplesOk] | exact .nil | rfl⟩
  · have t1 := hT (cT K ("is_patch", none)) List.mem_cons_self
    have t2 := hT (cT K ("is_word", none)) (List.mem_cons_of_mem _ List.mem_cons_self)
    exact law_of X G c ⟨t1.code, t1.bm, t1.gP⟩ ⟨t2.code, t2.bm, t2.gP⟩ (fun_of Fd)
end Ab
open PySem PySem.W PySem.Calls PyProof.Rows
theorem PySem.Challenge.cw_versionkept_k29_stacks_of_patches_holds : PySem.Challenge.rw_versionkept_k29_stacks_of_patches.Holds := by
  w_on; o_law
  refine HandSHeadRun.head_any (r := OpenLaw.row PySem.Challenge.rw_versionkept_k29_stacks_of_patches) (q := view (OpenLaw.row PySem.Challenge.rw_versionkept_k29_stacks_of_patches).prog [44]) (H := Ab.hkZ) (ob := Ab.obS) (M := 4000) (loose := Ab.looseN) (d := HandSHeadRun.topDef (OpenLaw.row PySem.Challenge.rw_versionkept_k29_stacks_of_patches).prog 44) (kwd := []) Ab.obS_eq
    (by kernel_rfl) (fun s => by kernel_rfl) Ab.top_run (by kernel_rfl) (by kernel_rfl) (by kernel_rfl) (by rfl) (by first | assumption | decide +kernel) (by decide +kernel) ⟨rfl, rfl, rfl, rfl, rfl, by decide +kernel⟩ ?hw ?hc
  case hw => w_witness2
  case hc =>
    refine LamX.walk_ofTsE (l := PySem.Challenge.rw_versionkept_k29_stacks_of_patches) (n := 63) (k := 7) (x := "script") (CX := fun w => L2.CX Ab.PP w) rfl (by decide) (by kernel_rfl) ⟨rfl, by decide, by decide⟩ ?F (fun w H s e s' z => by obtain ⟨a, B, H', cls, d, _, _, _, _, _, _, _, q⟩ := z; exact q)
    intro w mg fa h Y G hmg0
    have hmg : mg ("law" : PySem.Str) = some (.ref fa) := by
      have e : (HandSHeadRun.topDef (OpenLaw.row PySem.Challenge.rw_versionkept_k29_stacks_of_patches).prog 44).name = ("law" : PySem.Str) := by kernel_rfl
      rw [← e]
      exact hmg0
    exact Ab.law_at Y G hmg

