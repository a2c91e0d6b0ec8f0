import PyProof.Rows.All
import Wide.All
import OpenK.AllK
import Wide.FinOn
import PyProof.EqAt
import PyProof.EqKinds
import PyProof.TupleCall
import KE.KExcSuper
import HandS.ForMost
import HandS.ForExc
import HandS.ExcField
import PySem.Challenge.RW_plainmoment_k19_whole_reaches_of_kept
import HandS.IsInst
import HandS.Walk
import HandS.Wide
import HandS.Conv
import HandS.TupAny
import HandS.Lambda
import HandS.NoneIn
import HandS.EndTab
set_option Elab.async false
set_option linter.all false
set_option maxRecDepth 100000
set_option maxHeartbeats 8000000
/-! the text of the program, by places -/
namespace K19
open PySem PySem.Spec PyProof.Rows L2
abbrev theProg : Program := PySem.Challenge.pw_plainmoment_k19_whole_reaches_of_kept
def topS (i : Nat) : Stmt := theProg.main.body.getD i (.Pass ⟨0, 0, 0, 0⟩)
abbrev sInit : Stmt := inClass (topS 1) 0
end K19
/-! NoCount(v), NoMoment(v): the class's own maker is its parent's, which calls super's -/
namespace K19
open PySem PySem.W PySem.Calls PyProof.Rows PySem.HandSPX
/-- what the written part says of the class at C (named x), of its parent at D, of the parent's maker at fI -/
structure ErrTxt (K : Frag) (mg : Str → Option Value) (x : Str) (C D fI cc cda : Addr) : Prop where
  gC : mg x = some (.ref C)
  cls : ∃ nm q N bs bm sn sub ab col dd k0 k1 k2 k3 k5,
    K.lookup C = some (excClassObj nm q C N bs bm true sn sub ab col dd k0 k1 k2 k3 k5 "ValueError.__new__") ∧ refsVE bm = true
  sa : findIn K (.ref C) "__setattr__" = some (some (.builtin "object.__setattr__"))
  noT : findIn K (.ref C) "told" = some none
  iC : findIn K (.ref C) "__init__" = some (some (.ref fI))
  tC : typeIn K (.ref fI) = some (.type "function")
  kC : keepIn K (.ref C) = true
  exC : subIn K (.ref C) (.type "BaseException") = some true
  veC : subIn K (.ref C) (.type "ValueError") = some true
  tyC : typeIn K (.ref C) = some (.type "type")
  dcl : ∃ cdD, clsIn K D = some cdD
  sub : mroIn K C (.ref D) = some true
  sup : ks_superIn K C D "__init__" = some (some (.builtin "ValueError.__init__"))
  any : nsIn K cStatics "thirdparty.any" = some none
  gs : mg "super" = none
  cell : ∃ cl cld csl, K.lookup cc = some ⟨cl, cld, .cell (some (.ref D)), csl⟩
  code : ∃ ccl cdd vs ccs tf, K.lookup cda = some ⟨ccl, cdd, .fields vs, ccs⟩ ∧ vs[2]? = some (.str theProg.main.file tf)
  fn : ∃ (oc : Value) (od : Option Addr) (kV doc pm : Value) (an : Option Addr) (ct : Value) (osl : Array (Option Value)),
    K.lookup fI = some ⟨oc, od, .func (ksFn "__init__" "MomentError.__init__" (L2.defArgs sInit) (L2.defBody sInit) (L2.defScope sInit)
      .none kV doc pm an (.ref cda) ct cc), osl⟩ ∧ codeIn K (.ref cda) "MomentError.__init__" = true
/-- what the maker leaves of a fresh exception at x -/
structure Made (h h' : Heap) (x C dx t1 : Addr) (v : Value) : Prop where
  keep : ∀ b o, b ≠ x → h.get? b = some o → h'.get? b = some o
  obj : h'.get? x = some { cls := .ref C, dict := some dx, data := .fields #[.ref t1, .none, .none, .none, .bool false, .none] }
  dbig : h.objs.size ≤ dx
  dne : dx ≠ x
  ns : h'.Ns1 dx (fun y => if y = "told" then some v else none)
theorem mro_of {K : Frag} {C : Addr} {cd : ClassData} (hc : clsIn K C = some cd) {n : Str} {r : Option Value} {D : Addr} (h : ks_superIn K C D n = some r) :
    alongIn K n ((cd.mro.dropWhile (· != .ref D)).drop 1) = some r := by
  unfold ks_superIn at h
  rw [hc] at h
  exact h
section
variable {w : World} {A : Around} {E : Value → Shared → Prop} {R : Result → Shared → Prop} {s : Shared} {K : Frag} {mg : Str → Option Value} {nmC : Str} {C D fI cc cda : Addr}
/-- super's maker, bound to the exception at e by the wrapper at u -/
theorem wrapper_runs {h : Heap} {g : Array GenState} {d : Drawn} {t : Nat} {os : OsState} {u e t0 : Addr} {v : Value} {Q : Value → Shared → Prop} {nm q : Str} {N : Addr} {bs bm : List Value} {hdct : Bool} {sn : List Str} {sub : List Value} {ab : Bool}
    {col : Option Bool} {dd : Option Addr} {k0 k1 k2 k3 k5 : Option Value} (hC : h.get? C = some (excClassObj nm q C N bs bm hdct sn sub ab col dd k0 k1 k2 k3 k5 "ValueError.__new__"))
    (he : h.get? e = some (excO C t0)) (hu : h.get? u = some (kxs_mw "ValueError.__init__" e))
    (hq : ∀ h' t1, (∀ b o, b ≠ e → h.get? b = some o → h'.get? b = some o) → h'.get? e = some (excO C t1) → Q .none ⟨h', g, d, t, os⟩) :
    wpAny (model theProg w) A (PySem.call (.ref u) [v]) Q E ⟨h, g, d, t, os⟩ := by
  have FB := F.excBase_ValueError
  refine wpAny_call (codeAny_of_tree (show wpAny _ A.in1 (callAny (.ref u) ⟨[v], []⟩) _ _ _ from ?_))
  simp only [callAny]
  refine wpAny_bind (wpAny_load hu ?_)
  simp only [kxs_mw,
    show (Value.type "method-wrapper" == Value.type "method" || Value.type "method-wrapper" == Value.type "builtin_function_or_method" || Value.type "method-wrapper" == Value.type "method-wrapper") = true by decide,
    if_true]
  refine KFB.if_so (by decide) (wpAny_bind (check_bound_init FB.toExcCallFacts hC he rfl (wpAny_bind (wpAny_pure (wpAny_pure ?_)))))
  refine ⟨plainId_quiet FB.init.plain _, codeAny_builtin FB.initEntry (exc_init_tree (cls := .ref C) (t0 := t0) (dv := none) (c2 := .none) (c3 := .none) (b4 := .bool false) he ?_ fun h' k e' _ => hq h' _ k e')⟩
  rw [sizeLine_eq]
  exact (by decide : 1 ≤ 16777216)
theorem init_runs {x t0 : Addr} {v : Value} {mb : Str → Option Value} (T : ErrTxt K mg nmC C D fI cc cda) (X : K.In s.heap) (hlim : s.heap.NoLimit) (hg : s.heap.Ns mainGlobals mg) (hbn : s.heap.Ns builtinsNs mb)
    (hmb : mb "super" = some (.type "super")) (hx : s.heap.get? x = some (excO C t0)) (hnx : K.lookup x = none) (hroom : A.depth < recursionLimit)
    (hq : ∀ h' tk dx t1, Made s.heap h' x C dx t1 v → R (.ok (.ret .none)) { s with heap := h', toks := tk }) :
    codeAny (model theProg w) A (.call (.ref fI) ⟨[.ref x, v], []⟩) R s := by
  obtain ⟨oc, od, kV, doc, pm, an, ct, osl, ho, hcd⟩ := T.fn
  obtain ⟨nm, q, N, bs, bm, sn, sub, ab, col, dd, k0, k1, k2, k3, k5, hC, hbm⟩ := T.cls
  obtain ⟨cl, cld, csl, hcell⟩ := T.cell
  obtain ⟨ccl, cdd, vs, ccs, tf, hcode, hvs⟩ := T.code
  obtain ⟨cdD, hD⟩ := T.dcl
  have hcl : clsIn K C = some { name := nm, bases := bs, mro := .ref C :: bm, ns := N, qualname := q, hasDict := true, slotNames := sn, subclasses := sub, abstract := ab, collection := col, hasDel := false } := by
    unfold clsIn
    rw [hC] <;> rfl
  have hxC : x ≠ C := fun z => by
    have e := X _ _ hC
    rw [← z, hx] at e
    cases e
  obtain ⟨oD, hD1, hD2⟩ : ∃ oD, s.heap.get? D = some oD ∧ oD.data = .cls cdD := by
    unfold clsIn at hD
    split at hD
    · rename_i c d cd' sl hl
      cases hD
      exact ⟨_, X _ _ hl, rfl⟩
    · cases hD
  refine ks_codeAny_call_defAt (binds := [("self", .ref x), ("told", v)]) hroom (X _ _ ho) rfl hlim (codeRec_of X hcd) rfl (BindsTo.of_eq rfl) (show ∀ x ∈ (L2.defScope sInit).names, x.2 ≠ .cell by decide +kernel)
    (fun y hy => by
      rcases List.mem_cons.mp hy with rfl | hy
      · rfl
      · rcases List.mem_cons.mp hy with rfl | hy
        · rfl
        · cases hy) (fun h₁ hns k1' => ?_)
  have X₁ : K.In h₁ := X.keeps k1'
  have hx₁ := k1' _ _ hx
  have hxL : s.heap.objs.size ≠ x := Nat.ne_of_gt (Heap.lt_size hx)
  refine ks_wpAt_execs_cons (ks_wpAt_Expr_any (ks_wpAt_MethodCall ?_))
  refine ks_wpAt_super_base (by rfl) (by rfl) (by decide) rfl (X₁ _ _ ho) rfl rfl rfl (X₁ _ _ hcode) rfl hvs (by decide +kernel) (by decide +kernel) ?_
  refine ks_loadName_global (by rfl) (by rfl) (loadGlobal_builtin (mb := mb) (hg.keeps k1') T.gs (hbn.keeps k1') hmb ⟨rfl, ?_⟩)
  refine wpAny_loadName_free (by rfl) (by rfl) rfl ⟨_, X₁ _ _ hcell, rfl⟩ ?_
  refine wpAny_loadName_local (by rfl) (by rfl) hns (v := .ref x) rfl ?_
  refine ks_wpAny_isType_cls (k1' _ _ hD1) hD2 ⟨rfl, ?_⟩
  refine ks_wpAny_call_super (k1' _ _ hD1) hD2 hx₁ rfl (fun c e => nomatch e) (looks_mroIn X₁ T.sub) (fun h₂ e₂ k₂ => ?_)
  have X₂ : K.In h₂ := X₁.keeps k₂
  have hx₂ := k₂ _ _ hx₁
  have I₂ : InstAt h₂ x (excO C t0) C none := ⟨hx₂, rfl, rfl, trivial⟩
  refine kxs_getMethod kxs_ValueError e₂ (looks_opaque X₂ T.any) (l₀ := .ref C :: bm) (fun A Q E s k q => wpAny_bind ((looks_clsIn X₂ hcl) A _ E s k (wpAny_pure q))) rfl X₂ (mro_of hcl T.sup) (I₂.type.andThen (looks_subIn X₂ T.veC)) hxC (by decide) ?_
  refine kxs_callWith (i := "ValueError.__init__") (x := x) (by rfl) ?_
  refine evalArgs_plain (spliced_cons (wpAny_Name (wpAny_loadName_local (m := fun y => [(("self" : Str), Value.ref x), (("told" : Str), v)].reverse.lookup y) (v := v) (by rfl) (by rfl) ?_ rfl (spliced_nil ⟨?_, ?_⟩)) (by decide)))
  · exact (hns.keeps k₂).keeps fun b o e => Heap.get?_push_of_some _ e
  · exact Heap.get?_push_size _ rfl
  · refine wrapper_runs (X₂.keeps (fun b o e => Heap.get?_push_of_some _ e) _ _ hC) (Heap.get?_push_of_some _ hx₂) (Heap.get?_push_size _ rfl) fun h₃ t1 k₃ hx₃ => ?_
    have k13 : ∀ b o, b ≠ x → h₁.get? b = some o → h₃.get? b = some o := fun b o hb e => k₃ b o hb (Heap.get?_push_of_some _ (k₂ b o e))
    have X₃ : K.In h₃ := fun a o e => k13 a o (fun z => by rw [z, hnx] at e; cases e) (X₁ a o e)
    have hn₃ : h₃.Ns s.heap.objs.size (fun y => [(("self" : Str), Value.ref x), (("told" : Str), v)].reverse.lookup y) := by
      obtain ⟨o, es, ep, e, r⟩ := hns
      exact ⟨o, es, ep, k13 _ _ hxL e, r⟩
    refine wpAt_of_wpAny (wpAny_execs_cons (plainObj_wpAny_Assign_Attribute ?_))
    refine wpAny_Name (wpAny_loadName_local (by rfl) (by rfl) hn₃ (v := v) rfl ?_) (by decide)
    refine wpAny_Name (wpAny_loadName_local (by rfl) (by rfl) hn₃ (v := .ref x) rfl ?_) (by decide)
    refine set_plain X₃ (ox := excO C t1) (od := none) ⟨hx₃, rfl, rfl, trivial⟩ T.sa ?_
    refine exc_osa X₃ hx₃ hcl (show refsVE (.ref C :: bm) = true from hbm) rfl T.noT (fun h₄ tk₄ dx k₄ dn dne hx₄ hn₄ => ?_)
    refine wpAny_execs_nil (hq h₄ tk₄ dx t1 ⟨fun b o hb e => k₄ b o hb (k13 b o hb (k1' b o e)), hx₄, ?_, dne, hn₄⟩)
    obtain ⟨o, es, ep, e, r⟩ := hn₃
    exact Nat.le_of_lt (Nat.lt_of_lt_of_le (Heap.lt_size e) dn)
/-- a made exception -/
structure Born (h h' : Heap) (e C d : Addr) (v : Value) : Prop where
  keep : ∀ b o, h.get? b = some o → h'.get? b = some o
  new : h.objs.size ≤ e
  obj : ∃ oe vs, h'.get? e = some oe ∧ oe.cls = .ref C ∧ oe.dict = some d ∧ oe.data = .fields vs ∧ vs[1]? = some .none
  dbig : h.objs.size ≤ d
  dne : d ≠ e
  ns : h'.Ns1 d (fun y => if y = "told" then some v else none)
theorem err_born {v : Value} {mb : Str → Option Value} (T : ErrTxt K mg nmC C D fI cc cda) (X : K.In s.heap) (hlim : s.heap.NoLimit) (hg : s.heap.Ns mainGlobals mg) (hbn : s.heap.Ns builtinsNs mb) (hmb : mb "super" = some (.type "super"))
    (hroom : A.depth + 1 < recursionLimit) (hq : ∀ h' tk e d, Born s.heap h' e C d v → R (.ok (.ret (.ref e))) { s with heap := h', toks := tk }) :
    codeAny (model theProg w) A (.call (.ref C) ⟨[v], []⟩) R s := by
  obtain ⟨nm, q, N, bs, bm, sn, sub, ab, col, dd, k0, k1, k2, k3, k5, hC, hbm⟩ := T.cls
  obtain ⟨hp, g, dr, tk, os⟩ := s
  have k : ∀ b o, hp.get? b = some o → ((hp.push (kdv_tup [v])).push (excO C hp.objs.size)).get? b = some o := fun b o e =>
    Heap.get?_push_of_some _ (Heap.get?_push_of_some _ e)
  have hnx : K.lookup (hp.objs.size + 1) = none := by
    cases e : K.lookup (hp.objs.size + 1) with
    | none => rfl
    | some o => exact absurd (Nat.lt_of_succ_lt (Heap.lt_size (show hp.get? (hp.objs.size + 1) = some o from X _ _ e))) (Nat.lt_irrefl _)
  refine call_own F.excBase_ValueError (fun Y => refsVE_contains Y bm hbm) (X _ _ hC) (looks_findIn X T.iC) (fun self => bind_fn X self T.tC) (by rw [sizeLine_eq]; exact (by decide : 1 ≤ 16777216)) ?_
  refine init_runs (s := ⟨(hp.push (kdv_tup [v])).push (excO C hp.objs.size), g, dr, tk, os⟩) T (X.keeps k) (hlim.keeps k) (hg.keeps k) (hbn.keeps k) hmb (by heap_get) hnx
    (show A.depth + 1 < recursionLimit from hroom) fun h' tk' dx t1 M => ?_
  have z : hp.objs.size + 1 + 1 ≤ dx := by
    have q := M.dbig
    rw [Heap.size_push, Heap.size_push] at q
    exact q
  exact ⟨rfl, hq h' tk' (hp.objs.size + 1) dx ⟨fun b o e => M.keep b o (Nat.ne_of_lt (Nat.lt_succ_of_lt (Heap.lt_size e))) (k b o e), Nat.le_succ _, ⟨_, _, M.obj, rfl, rfl, rfl, rfl⟩,
    Nat.le_trans (Nat.le_trans (Nat.le_succ _) (Nat.le_succ _)) z, M.dne, M.ns⟩⟩
end
end K19
namespace K19
open PySem PySem.Spec PyProof.Rows L2
theorem relO_told {v : V} {v' : Value} (r : RelV v v') (f : Str) : RelO (List.lookup f [(("told" : Str), v)]) (if f = "told" then some v' else none) := by
  by_cases hw : f = "told"
  · subst hw
    rw [if_pos rfl, show List.lookup ("told" : Str) [(("told" : Str), v)] = some v by simp [List.lookup]]
    exact r
  · have qw : (f == ("told" : Str)) = false := by simpa using hw
    rw [if_neg hw, show List.lookup f [(("told" : Str), v)] = none by simp [List.lookup, qw]]
    trivial
/-- NoCount(e), NoMoment(e) -/
def tMkE (C : Addr) (ta : TA) : L2.St → Hp → XK → Prop := fun σ H Q => ta σ H fun vs H1 => ∃ v, vs = [v] ∧ ∀ d, H1 d = none → Q (.ref C) (some d) (upd H1 d (.xd [(("told" : Str), v)]))
section
variable {X : Cx} {nmC : Str} {C D fI cc cda : Addr}
theorem pmk_err {a : Expr} {ta : TA} {p pos : Pos} {k : Nat} (hP : X.prog = theProg) (T : ErrTxt X.K X.mg nmC C D fI cc cda) (hr : Room k X.A) (ha : PA X [a] ta) (hg : Gl X nmC := by rfl) (hdb : (nmC == ("__debug__" : Str)) = false := by decide)
    (he : starEach (a :: []) X.env = (false, eval a X.env) :: starEach [] X.env := by rfl) (hpl : (backTo pos (starEach [] X.env)).any (·.1) = false := by rfl) :
    PMk X (.Call (.Name nmC p) [a] [] pos) (tMkE C ta) := by
  intro pins s σ H Q I h
  refine wpAny_Call_Name_kw (ld_glob I hg T.gC ?_ hdb)
  refine PySem.W.callWith_K (h₀ := X.base) I.ok.mod.kin T.kC (thn (ha.run pos pins s σ H _ I h) fun us s1 hh => ?_) he hpl
  obtain ⟨vs, H1, I1, r1, v, ev, q1⟩ := hh
  subst ev
  refine ⟨I1.kIn, ?_⟩
  cases r1 with
  | cons rv rn =>
    rename_i v' us'
    cases rn
    show wpAny _ _ (call (.ref C) [v']) _ _ _
    have hlim := I1.nolimit
    have hgl := I1.mod.glob.keeps I1.bk
    obtain ⟨mb, h1, h2⟩ := I1.mod.blt
    have hbl := h1.keeps I1.bk
    have hmb : mb "super" = some (.type "super") := (h2 _ (by decide)).trans (by decide +kernel)
    obtain ⟨hp, g, dr, tk, os⟩ := s1
    rw [hP]
    refine wpAny_call (err_born T I1.kIn hlim hgl hbl hmb (by have := hr.dp; omega) fun h' tk' e d M => ?_)
    show MkP X pins σ Q (.ref e) ⟨h', g, dr, tk', os⟩
    obtain ⟨oe, fv, hoe, hc, hd, hdat, hf1⟩ := M.obj
    have hns := M.ns
    obtain ⟨G', g1, g2⟩ := restrict h' fun b => decide (b ≠ e)
    have gk : ∀ b, b ≠ e → G'.get? b = h'.get? b := fun b hb => g1 b (decide_eq_true hb)
    have ge : G'.get? e = none := g2 e (by simp)
    have old : ∀ b o, hp.get? b = some o → G'.get? b = some o := fun b o q => (gk b (Nat.ne_of_lt (Nat.lt_of_lt_of_le (Heap.lt_size q) M.new))).trans (M.keep b o q)
    have ob : ObjOk X.prog X.w (upd H1 d (.xd [(("told" : Str), v)])) G' d (.xd [(("told" : Str), v)]) := ⟨_, hns.at (fun o q => (gk d M.dne).trans q), fun f => relO_told rv f⟩
    have J : Inv X pins σ (upd H1 d (.xd [(("told" : Str), v)])) ⟨G', g, dr, tk', os⟩ := I1.laid (t' := tk') old M.dbig ob
    refine ⟨e, oe, fv, ⟨G', g, dr, tk', os⟩, _, .ref C, some d, rfl, J, fun b o q => ?_, ge, hoe, ⟨hc, hd⟩, hdat, hf1, ?_, rfl, I1.bare, raises_own T.exC T.tyC, q1 d (I1.hok.fresh M.dbig)⟩
    · by_cases hb : b = e
      · rw [hb, show G'.get? e = none from ge] at q
        cases q
      · exact (gk b hb).symm.trans q
    · rw [upd_ne (Ne.symm M.dne)]
      exact I1.hok.fresh M.new
end
end K19

/-! helpers: the built-ins' names, a def of the text, arguments of any kind, lists and tuples alike -/
namespace K19
open PySem PySem.Spec PyProof.Rows L2
structure Bt (mg : Str → Option Value) : Prop where
  isi : mg "isinstance" = none
  int : mg "int" = none
  bool : mg "bool" = none
  list : mg "list" = none
  tuple : mg "tuple" = none
  len : mg "len" = none
  max : mg "max" = none
  min : mg "min" = none
  abs : mg "abs" = none
  range : mg "range" = none
/-- the def x of the text stands at f -/
structure Df (K : PySem.W.Frag) (mg : Str → Option Value) (x : Str) (st : Stmt) (ps : List Str) (f : Addr) (fd : FuncData) : Prop where
  F : Fun K x x st f fd
  b : Binds K fd ps []
  g : mg x = some (.ref f)
section
variable {X : Cx} {CX : CXT} {k : Nat} {f : Addr} {fd : FuncData} {ps : List Str} {sp : Sp} {E : XK} {x : Str} {st : Stmt} {p pos : Pos} {e : Expr} {es : List Expr} {t : TA}
theorem pcall (D : Df X.K X.mg x st ps f fd) (G : FnOk X.prog X.w X.K X.mg X.base CX k f fd ps sp) (hr : Room k X.A) (hx : Passes CX X E) (ha : PA X (e :: es) t) (hg : Gl X x := by rfl) (hdb : (x == ("__debug__" : Str)) = false := by decide)
    (he : starEach (e :: es) X.env = (false, eval e X.env) :: starEach es X.env := by rfl) (hpl : (backTo pos (starEach es X.env)).any (·.1) = false := by rfl) : PE X (.Call (.Name x p) (e :: es) [] pos) (tCall sp [] E t) :=
  pe_call G hr hg D.g D.F.kp D.b .nil hx ha (by assumption) he hpl
end
/-- the kind of an argument -/
def Arg (H : Hp) (v : V) (t : String) : Prop := match v with
  | .non => t = "NoneType"
  | .bl _ => t = "bool"
  | .int _ => t = "int"
  | .str _ => t = "str"
  | .ref a => (t = "list" ∧ ∃ xs, H a = some (.lst xs)) ∨ (t = "tuple" ∧ ∃ xs, H a = some (.tup xs))
  | _ => False
theorem Arg.ty {K : PySem.W.Frag} {H : Hp} {v : V} {t : String} (h : Arg H v t) : TyX K H v (.type t) := by
  cases v with
  | non => cases (show t = "NoneType" from h); exact .base .non
  | bl b => cases (show t = "bool" from h); exact .base (.bl b)
  | int i => cases (show t = "int" from h); exact .base (.int i)
  | str x => cases (show t = "str" from h); exact .base (.str x)
  | ref a =>
    rcases (show (t = "list" ∧ ∃ xs, H a = some (.lst xs)) ∨ (t = "tuple" ∧ ∃ xs, H a = some (.tup xs)) from h) with ⟨rfl, xs, e⟩ | ⟨rfl, xs, e⟩
    · exact .base (.lst e)
    · exact .base (.tup e)
  | byt b => exact (show False from h).elim
  | flt b => exact (show False from h).elim
  | ty n => exact (show False from h).elim
theorem Arg.same {H H' : Hp} (s : Same H H') {v : V} {t : String} (h : Arg H v t) : Arg H' v t := by
  cases v with
  | ref a =>
    rcases (show (t = "list" ∧ ∃ xs, H a = some (.lst xs)) ∨ (t = "tuple" ∧ ∃ xs, H a = some (.tup xs)) from h) with ⟨rfl, xs, e⟩ | ⟨rfl, xs, e⟩
    · exact .inl ⟨rfl, xs, s _ _ e⟩
    · exact .inr ⟨rfl, xs, s _ _ e⟩
  | _ => exact h
def isInt : V → Bool
  | .int _ => true
  | _ => false
def isSeq : V → Bool
  | .ref _ => true
  | _ => false
def isRange (v : V) (lo hi : Int) : Bool := match v with
  | .int i => decide (lo ≤ i) && decide (i ≤ hi)
  | _ => false
def isMany (v : V) : Bool := match v with
  | .int i => decide (1 ≤ i)
  | _ => false
theorem same_upd {H : Hp} {p : Addr} {o : HO} (h : H p = none) : Same H (upd H p o) := fun b x e => by
  rw [upd_ne (ne_of_none e h)]
  exact e
theorem Same.upd {H H' : Hp} {p : Addr} {o : HO} (s : Same H H') (h : H' p = none) : Same H (L2.upd H' p o) := s.trans (same_upd h)
theorem Same.seqT {K : PySem.W.Frag} {H H' : Hp} {a : Addr} {xs : List V} (e : Same H H') (h : SqT K H a xs) : SqT K H' a xs := by
  rcases h with (h | ⟨o, h⟩) | h
  · exact .inl (.inl (e _ _ h))
  · exact .inl (.inr ⟨o, e _ _ h⟩)
  · exact .inr h
/-- a list (kd true) or a tuple of xs -/
def Ln (kd : Bool) (K : PySem.W.Frag) (H : Hp) (a : Addr) (xs : List V) : Prop := if kd = true then SqL K H a xs else SqT K H a xs
theorem Ln.same {kd : Bool} {K : PySem.W.Frag} {H H' : Hp} {a : Addr} {xs : List V} (e : Same H H') (h : Ln kd K H a xs) : Ln kd K H' a xs := by
  cases kd with
  | true => exact Same.seq e (show SqL K H a xs from h)
  | false => exact Same.seqT e (show SqT K H a xs from h)
theorem Ln.or {kd : Bool} {K : PySem.W.Frag} {H : Hp} {a : Addr} {xs : List V} (h : Ln kd K H a xs) : SqL K H a xs ∨ SqT K H a xs := by
  cases kd with
  | true => exact .inl h
  | false => exact .inr h
def ItLn (kd : Bool) (K : PySem.W.Frag) (a : Addr) : It := if kd = true then Itl K a else Itt K a
theorem walk_ln {kd : Bool} {K : PySem.W.Frag} {a : Addr} {xs : List V} : Walk (ItLn kd K a) xs.length (fun H => Ln kd K H a xs) (YAt xs) := by
  cases kd with
  | true => exact walk_list
  | false => exact walk_tup
/-- the name in slot i holds a list or a tuple -/
def iLn (K : PySem.W.Frag) (i : Nat) : TI := fun σ H R => ∃ (a : Addr) (kd : Bool), σ[i]? = some (some (.ref a)) ∧ (∃ xs, Ln kd K H a xs) ∧ R (ItLn kd K a) H
theorem pi_ln {X : Cx} {tg : Expr} {x : Str} {pos : Pos} (i : Nat) (hN : X.N[i]? = some x := by rfl) (hv : Vis X.env.scope x := by first | exact Or.inl rfl | exact Or.inr (Or.inl rfl) | exact Or.inr (Or.inr rfl))
    (hd : (x == ("__debug__" : Str)) = false := by decide) (hcd : (x == ("__classdict__" : Str)) = false := by decide) : PI X tg (.Name x pos) (iLn X.K i) := by
  refine ⟨fun pins s σ H R I h => ?_⟩
  obtain ⟨a, kd, hs, hx, hR⟩ := h
  cases kd with
  | true => exact (pi_list (tg := tg) (pv (pos := pos) i hN hv hd hcd)).run pins s σ H R I ⟨.ref a, hs, a, rfl, hx, hR⟩
  | false => exact (pi_tup (tg := tg) (pv (pos := pos) i hN hv hd hcd)).run pins s σ H R I ⟨.ref a, hs, a, rfl, hx, hR⟩
end K19

/-! is_whole, is_number, is_line -/
namespace K19
open PySem PySem.Spec PyProof.Rows L2
abbrev sWhole : Stmt := topS 6
abbrev sNumber : Stmt := topS 7
abbrev sLine : Stmt := topS 8
theorem scWhole : FnScope ["value"] ["value"] (defScope sWhole) := ⟨rfl, rfl, rfl, by decide +kernel, rfl, by decide +kernel, by decide +kernel⟩
theorem scNumber : FnScope ["value", "low", "high"] ["value", "low", "high"] (defScope sNumber) := ⟨rfl, rfl, rfl, by decide +kernel, rfl, by decide +kernel, by decide +kernel⟩
theorem scLine : FnScope ["value"] ["value"] (defScope sLine) := ⟨rfl, rfl, rfl, by decide +kernel, rfl, by decide +kernel, by decide +kernel⟩
def spWhole : Sp := fun vs H Q _ => ∃ v t, vs = [v] ∧ Arg H v t ∧ Q (.bl (isInt v)) H
def spNumber : Sp := fun vs H Q _ => ∃ v t lo hi, vs = [v, .int lo, .int hi] ∧ Arg H v t ∧ Q (.bl (isRange v lo hi)) H
def spLine : Sp := fun vs H Q _ => ∃ v t, vs = [v] ∧ Arg H v t ∧ ∀ H', Same H H' → Q (.bl (isSeq v)) H'
def intB (t : String) : Bool := t == "int" || t == "bool"
theorem kit_int {K : PySem.W.Frag} {H : Hp} {v : V} {t : String} (h : Arg H v t) : PySem.W.kitOne K (.type t) (.type "int") = some (intB t) := by
  cases v with
  | non => cases (show t = "NoneType" from h); exact kit_ty (by decide +kernel)
  | bl b => cases (show t = "bool" from h); exact kit_ty (by decide +kernel)
  | int i => cases (show t = "int" from h); exact kit_ty (by decide +kernel)
  | str x => cases (show t = "str" from h); exact kit_ty (by decide +kernel)
  | ref a =>
    rcases (show (t = "list" ∧ ∃ xs, H a = some (.lst xs)) ∨ (t = "tuple" ∧ ∃ xs, H a = some (.tup xs)) from h) with ⟨rfl, xs, e⟩ | ⟨rfl, xs, e⟩
    · exact kit_ty (by decide +kernel)
    · exact kit_ty (by decide +kernel)
  | byt b => exact (show False from h).elim
  | flt b => exact (show False from h).elim
  | ty n => exact (show False from h).elim
theorem kit_bool {K : PySem.W.Frag} {H : Hp} {v : V} {t : String} (h : Arg H v t) : PySem.W.kitOne K (.type t) (.type "bool") = some (t == "bool") := by
  cases v with
  | non => cases (show t = "NoneType" from h); exact kit_ty (by decide +kernel)
  | bl b => cases (show t = "bool" from h); exact kit_ty (by decide +kernel)
  | int i => cases (show t = "int" from h); exact kit_ty (by decide +kernel)
  | str x => cases (show t = "str" from h); exact kit_ty (by decide +kernel)
  | ref a =>
    rcases (show (t = "list" ∧ ∃ xs, H a = some (.lst xs)) ∨ (t = "tuple" ∧ ∃ xs, H a = some (.tup xs)) from h) with ⟨rfl, xs, e⟩ | ⟨rfl, xs, e⟩
    · exact kit_ty (by decide +kernel)
    · exact kit_ty (by decide +kernel)
  | byt b => exact (show False from h).elim
  | flt b => exact (show False from h).elim
  | ty n => exact (show False from h).elim
theorem kit_line {K : PySem.W.Frag} {H : Hp} {v : V} {t : String} (h : Arg H v t) : PySem.W.kitAny K (.type t) [.type "list", .type "tuple"] = some (isSeq v) := by
  cases v with
  | non => cases (show t = "NoneType" from h); exact kitAny_cons (b := false) (kit_ty (by decide +kernel)) (fun _ => kitAny_cons (b := false) (kit_ty (by decide +kernel)) (fun _ => kitAny_nil) (fun z => nomatch z)) (fun z => nomatch z)
  | bl b => cases (show t = "bool" from h); exact kitAny_cons (b := false) (kit_ty (by decide +kernel)) (fun _ => kitAny_cons (b := false) (kit_ty (by decide +kernel)) (fun _ => kitAny_nil) (fun z => nomatch z)) (fun z => nomatch z)
  | int i => cases (show t = "int" from h); exact kitAny_cons (b := false) (kit_ty (by decide +kernel)) (fun _ => kitAny_cons (b := false) (kit_ty (by decide +kernel)) (fun _ => kitAny_nil) (fun z => nomatch z)) (fun z => nomatch z)
  | str x => cases (show t = "str" from h); exact kitAny_cons (b := false) (kit_ty (by decide +kernel)) (fun _ => kitAny_cons (b := false) (kit_ty (by decide +kernel)) (fun _ => kitAny_nil) (fun z => nomatch z)) (fun z => nomatch z)
  | ref a =>
    rcases (show (t = "list" ∧ ∃ xs, H a = some (.lst xs)) ∨ (t = "tuple" ∧ ∃ xs, H a = some (.tup xs)) from h) with ⟨rfl, xs, e⟩ | ⟨rfl, xs, e⟩
    · exact kitAny_cons (b := true) (kit_ty (by decide +kernel)) (fun z => nomatch z) (fun _ => rfl)
    · exact kitAny_cons (b := false) (kit_ty (by decide +kernel)) (fun _ => kitAny_cons (b := true) (kit_ty (by decide +kernel)) (fun z => nomatch z) (fun _ => rfl)) (fun z => nomatch z)
  | byt b => exact (show False from h).elim
  | flt b => exact (show False from h).elim
  | ty n => exact (show False from h).elim
theorem int_is {H : Hp} {v : V} {t : String} (h : Arg H v t) : isInt v = (intB t && !(t == "bool")) := by
  cases v with
  | non => cases (show t = "NoneType" from h); rfl
  | bl b => cases (show t = "bool" from h); rfl
  | int i => cases (show t = "int" from h); rfl
  | str x => cases (show t = "str" from h); rfl
  | ref a =>
    rcases (show (t = "list" ∧ ∃ xs, H a = some (.lst xs)) ∨ (t = "tuple" ∧ ∃ xs, H a = some (.tup xs)) from h) with ⟨rfl, xs, e⟩ | ⟨rfl, xs, e⟩ <;> rfl
  | byt b => exact (show False from h).elim
  | flt b => exact (show False from h).elim
  | ty n => exact (show False from h).elim
theorem ite_bool {c : Bool} {A B : Prop} (h1 : c = true → A) (h2 : c = false → B) : if c = true then A else B := by
  cases c with
  | true => exact iteT (h1 rfl)
  | false => exact iteF (h2 rfl)
section
variable {P : Program} {w : World} {K : PySem.W.Frag} {mg : Str → Option Value} {base : Heap}
theorem ok_whole {f : Addr} {fd : FuncData} (B : Bt mg) (D : Df K mg "is_whole" sWhole ["value"] f fd) : FnOk P w K mg base CX0 1 f fd ["value"] spWhole := by
  refine D.F.ok scWhole (fun vs H Q E h => ?_) (fun cdv A outer s H vs Q E hr h => ?_)
  · obtain ⟨v, t, rfl, _⟩ := h
    rfl
  · obtain ⟨v, t, rfl, ha, q⟩ := h
    refine ⟨_, pss_one (ps_ret (pe_and (pe_callB call_isi (by rfl) B.isi (by decide +kernel) (pa_cons (pv 0) (pa_cons (pe_bltn (by rfl) B.int (by decide +kernel) (v := .ty "int") rfl) pa_nil)))
      (pe_one (pe_not (pe_callB call_isi (by rfl) B.isi (by decide +kernel) (pa_cons (pv 0) (pa_cons (pe_bltn (by rfl) B.bool (by decide +kernel) (v := .ty "bool") rfl) pa_nil))))))), ?_⟩
    refine ⟨v, rfl, v, .ty "int", _, _, _, rfl, .ty _, ha.ty, kit_int ha, _, rfl, ite_bool (fun e => ?_) (fun e => ?_)⟩
    · refine ⟨v, rfl, v, .ty "bool", _, _, _, rfl, .ty _, ha.ty, kit_bool ha, _, rfl, ?_⟩
      have z := int_is ha
      rw [e, Bool.true_and] at z
      rw [z] at q
      exact q
    · have z := int_is ha
      rw [e, Bool.false_and] at z
      rw [z] at q
      exact q
theorem ok_number {f fW : Addr} {fd fdW : FuncData} (D : Df K mg "is_number" sNumber ["value", "low", "high"] f fd) (DW : Df K mg "is_whole" sWhole ["value"] fW fdW) (GW : FnOk P w K mg base CX0 1 fW fdW ["value"] spWhole) :
    FnOk P w K mg base CX0 2 f fd ["value", "low", "high"] spNumber := by
  refine D.F.ok scNumber (fun vs H Q E h => ?_) (fun cdv A outer s H vs Q E hr h => ?_)
  · obtain ⟨v, t, lo, hi, rfl, _⟩ := h
    rfl
  · obtain ⟨v, t, lo, hi, rfl, ha, q⟩ := h
    refine ⟨_, pss_one (ps_ret (pe_and (pcall DW GW hr pass0 (pa_cons (pv 0) pa_nil)) (pe_one (pe_chain op_le op_le (pv 1) (pv 0) (pv 2))))), ?_⟩
    refine ⟨v, rfl, v, t, rfl, ha, _, rfl, ite_bool (fun e => ?_) (fun e => ?_)⟩
    · cases v with
      | int i =>
        refine ⟨.int lo, rfl, .int i, rfl, lo, i, rfl, rfl, _, rfl, ite_bool (fun e1 => ?_) (fun e1 => ?_)⟩
        · refine ⟨.int hi, rfl, i, hi, rfl, rfl, ?_⟩
          have z : isRange (.int i) lo hi = decide (i ≤ hi) := by
            show (decide (lo ≤ i) && decide (i ≤ hi)) = _
            rw [e1, Bool.true_and]
          rw [z] at q
          exact q
        · have z : isRange (.int i) lo hi = false := by
            show (decide (lo ≤ i) && decide (i ≤ hi)) = _
            rw [e1, Bool.false_and]
          rw [z] at q
          exact q
      | _ => exact nomatch (show false = true from e)
    · cases v with
      | int i => exact nomatch (show true = false from e)
      | _ => exact q
theorem ok_line {f : Addr} {fd : FuncData} (B : Bt mg) (D : Df K mg "is_line" sLine ["value"] f fd) : FnOk P w K mg base CX0 1 f fd ["value"] spLine := by
  refine D.F.ok scLine (fun vs H Q E h => ?_) (fun cdv A outer s H vs Q E hr h => ?_)
  · obtain ⟨v, t, rfl, _⟩ := h
    rfl
  · obtain ⟨v, t, rfl, ha, q⟩ := h
    refine ⟨_, pss_one (ps_ret (pe_callB call_isiT (by rfl) B.isi (by decide +kernel) (pa_cons (pv 0)
      (pa_cons (pe_tup (pa_cons (pe_bltn (by rfl) B.list (by decide +kernel) (v := .ty "list") rfl) (pa_cons (pe_bltn (by rfl) B.tuple (by decide +kernel) (v := .ty "tuple") rfl) pa_nil))) pa_nil)))), ?_⟩
    refine ⟨v, rfl, (by show 2 ≤ sizeLine; decide), fun p np => ?_⟩
    exact ⟨v, p, [.ty "list", .ty "tuple"], _, _, _, rfl, upd_same, .cons (.ty _) (.cons (.ty _) .nil), (ha.same (same_upd np)).ty, kit_line ha, q _ (same_upd np)⟩
end
end K19

/-! check_last, check_many, check_moments -/
namespace K19
open PySem PySem.Spec PyProof.Rows L2
abbrev sLast : Stmt := topS 10
abbrev sMany : Stmt := topS 11
abbrev sMoms : Stmt := topS 12
theorem scLast : FnScope ["last"] ["last"] (defScope sLast) := ⟨rfl, rfl, rfl, by decide +kernel, rfl, by decide +kernel, by decide +kernel⟩
theorem scMany : FnScope ["many"] ["many"] (defScope sMany) := ⟨rfl, rfl, rfl, by decide +kernel, rfl, by decide +kernel, by decide +kernel⟩
theorem scMoms : FnScope ["last", "moments", "from_first", "ahead", "moment"] ["last", "moments", "from_first"] (defScope sMoms) := ⟨rfl, rfl, rfl, by decide +kernel, rfl, by decide +kernel, by decide +kernel⟩
theorem sameU {H H1 : Hp} {p : Addr} {o : HO} (s : Same H H1) (h : H1 p = none) : Same H (L2.upd H1 p o) := s.trans (same_upd h)
/-- the class at C is raised with what was told -/
def Raised (C : Addr) (v : V) (H : Hp) (E : XK) : Prop := ∀ (d : Addr) (H' : Hp), Same H H' → H' d = some (.xd [(("told" : Str), v)]) → E (.ref C) (some d) H'
theorem Raised.at {C : Addr} {v : V} {H H1 : Hp} {E : XK} (r : Raised C v H E) (s : Same H H1) (d : Addr) (hd : H1 d = none) : E (.ref C) (some d) (upd H1 d (.xd [(("told" : Str), v)])) := r d _ (sameU s hd) upd_same
def spLast (C : Addr) : Sp := fun vs H Q E => ∃ v t, vs = [v] ∧ Arg H v t ∧ (isRange v 0 600 = true → Q .non H) ∧ (isRange v 0 600 = false → Raised C v H E)
def spMany (C : Addr) : Sp := fun vs H Q E => ∃ v t, vs = [v] ∧ Arg H v t ∧ (isMany v = true → Q .non H) ∧ (isMany v = false → Raised C v H E)
def wrong1 (L : Int) (b : Bool) (a : Int) : V → Bool
  | .int i => !(decide (0 ≤ i) && decide (i ≤ L)) || (decide (i ≤ a) || (b && (decide (a = -1) && !decide (i = 0))))
  | _ => true
def intOf : V → Int
  | .int i => i
  | _ => 0
def firstBad (L : Int) (b : Bool) : Int → List V → Option V
  | _, [] => none
  | a, x :: r => if wrong1 L b a x = true then some x else firstBad L b (intOf x) r
/-- a tracked list (kd true) or tuple -/
def Tk (kd : Bool) (xs : List V) : HO := if kd = true then .lst xs else .tup xs
theorem Tk.ln {kd : Bool} {K : PySem.W.Frag} {H : Hp} {a : Addr} {xs : List V} (h : H a = some (Tk kd xs)) : Ln kd K H a xs := by
  cases kd with
  | true => exact .inl (.inl h)
  | false => exact .inl (.inl h)
theorem Tk.arg {kd : Bool} {H : Hp} {a : Addr} {xs : List V} (h : H a = some (Tk kd xs)) : ∃ t, Arg H (.ref a) t := by
  cases kd with
  | true => exact ⟨_, .inl ⟨rfl, xs, h⟩⟩
  | false => exact ⟨_, .inr ⟨rfl, xs, h⟩⟩
def spMoms (C : Addr) : Sp := fun vs H Q E => ∃ (L : Int) (v : V) (b : Bool), vs = [.int L, v, .bl b] ∧
  ((∃ t, Arg H v t ∧ isSeq v = false ∧ Raised C .non H E) ∨
    ∃ (ad : Addr) (kd : Bool) (xs : List V), v = .ref ad ∧ H ad = some (Tk kd xs) ∧ (xs = [] → Raised C .non H E) ∧
      (xs ≠ [] → (∀ x ∈ xs, ∃ t, Arg H x t) ∧ (∀ x, firstBad L b (-1) xs = some x → Raised C x H E) ∧ (firstBad L b (-1) xs = none → ∀ H', Same H H' → Q .non H')))
section
variable {w : World} {K : PySem.W.Frag} {mg : Str → Option Value} {base : Heap} {C D fI cc cda : Addr} {fN fW fL : Addr} {fdN fdW fdL : FuncData}
theorem ok_last {f : Addr} {fd : FuncData} (T : ErrTxt K mg "NoCount" C D fI cc cda) (m6 : ∃ t, mg "MOST_STEPS" = some (.int 600 t)) (F : Df K mg "check_last" sLast ["last"] f fd) (DN : Df K mg "is_number" sNumber ["value", "low", "high"] fN fdN)
    (GN : FnOk theProg w K mg base CX0 2 fN fdN ["value", "low", "high"] spNumber) : FnOk theProg w K mg base (L2.CX theProg w) 3 f fd ["last"] (spLast C) := by
  refine F.F.okX scLast (fun vs H Q E h => ?_) (fun cdv A outer s H vs Q E hr h => ?_)
  · obtain ⟨v, t, rfl, _⟩ := h
    rfl
  · obtain ⟨v, t, rfl, ha, q1, q2⟩ := h
    obtain ⟨tk, m6⟩ := m6
    refine ⟨_, pss_one (ps_if (pt_not (pt_val (pcall DN GN hr pass0 (pa_cons (pv 0) (pa_cons pe_int (pa_cons (pe_glob rfl m6 (v := .int 600) ⟨_, rfl⟩) pa_nil))))))
      (pss_one (ps_raise rfl (takes_of rfl rfl rfl rfl) (pmk_err rfl T hr (pa_cons (pv 0) pa_nil)))) pss_nil), ?_⟩
    refine ⟨v, rfl, v, t, 0, 600, rfl, ha, _, rfl, ?_⟩
    cases e : isRange v 0 600 with
    | true => exact iteF (q1 e)
    | false => exact iteT ⟨v, rfl, v, rfl, fun d hd => (q2 e).at (Same.refl _) d hd⟩
theorem ok_many {f : Addr} {fd : FuncData} (T : ErrTxt K mg "NoCount" C D fI cc cda) (F : Df K mg "check_many" sMany ["many"] f fd) (DW : Df K mg "is_whole" sWhole ["value"] fW fdW)
    (GW : FnOk theProg w K mg base CX0 1 fW fdW ["value"] spWhole) : FnOk theProg w K mg base (L2.CX theProg w) 3 f fd ["many"] (spMany C) := by
  refine F.F.okX scMany (fun vs H Q E h => ?_) (fun cdv A outer s H vs Q E hr h => ?_)
  · obtain ⟨v, t, rfl, _⟩ := h
    rfl
  · obtain ⟨v, t, rfl, ha, q1, q2⟩ := h
    refine ⟨_, pss_one (ps_if (PW.pt (pw_or (pt_not (pt_val (pcall DW GW (hr.mono (by decide)) pass0 (pa_cons (pv 0) pa_nil)))) (pw_or1 (pt_cmpR op_lt (pv 0) pe_int (nomark _)))))
      (pss_one (ps_raise rfl (takes_of rfl rfl rfl rfl) (pmk_err rfl T hr (pa_cons (pv 0) pa_nil)))) pss_nil), ?_⟩
    refine ⟨v, rfl, v, t, rfl, ha, _, rfl, ?_⟩
    cases v with
    | int i =>
      refine iteF ⟨.int i, rfl, i, 1, rfl, rfl, _, rfl, ?_⟩
      by_cases hi : i < 1
      · have e : isMany (.int i) = false := decide_eq_false (by omega)
        rw [decide_eq_true hi]
        exact iteT ⟨.int i, rfl, .int i, rfl, fun d hd => (q2 e).at (Same.refl _) d hd⟩
      · have e : isMany (.int i) = true := decide_eq_true (by omega)
        rw [decide_eq_false hi]
        exact iteF (q1 e)
    | _ => exact iteT (iteT ⟨_, rfl, _, rfl, fun d hd => (q2 rfl).at (Same.refl _) d hd⟩)
theorem ok_moms {f : Addr} {fd : FuncData} (B : Bt mg) (T : ErrTxt K mg "NoMoment" C D fI cc cda) (F : Df K mg "check_moments" sMoms ["last", "moments", "from_first"] f fd) (DN : Df K mg "is_number" sNumber ["value", "low", "high"] fN fdN)
    (GN : FnOk theProg w K mg base CX0 2 fN fdN ["value", "low", "high"] spNumber) (DL : Df K mg "is_line" sLine ["value"] fL fdL) (GL : FnOk theProg w K mg base CX0 1 fL fdL ["value"] spLine) :
    FnOk theProg w K mg base (L2.CX theProg w) 3 f fd ["last", "moments", "from_first"] (spMoms C) := by
  refine F.F.okX scMoms (fun vs H Q E h => ?_) (fun cdv A outer s H vs Q E hr h => ?_)
  · obtain ⟨L, v, b, rfl, _⟩ := h
    rfl
  · obtain ⟨L, v, b, rfl, h⟩ := h
    refine ⟨_, pss_cons (ps_if (PW.pt (pw_or (pt_not (pt_val (pcall DL GL (hr.mono (by decide)) pass0 (pa_cons (pv 1) pa_nil)))) (pw_or1 (pt_cmpR op_eq (pe_callB call_len_seq (by rfl) B.len PySem.boot_len (pa_cons (pv 1) pa_nil)) pe_int (nomark _)))))
        (pss_one (ps_raise rfl (takes_of rfl rfl rfl rfl) (pmk_err rfl T hr (pa_cons pe_non pa_nil)))) pss_nil)
      (pss_cons (ps_set (i := 3) scMoms.nd rfl (.inl rfl) (pe_un un_neg pe_int))
      (pss_one (ps_for (passes_of rfl) rfl (pi_ln 1) (pg_name (i := 4) scMoms.nd rfl (.inl rfl))
        (pss_cons (ps_if (PW.pt (pw_or (pt_not (pt_val (pcall DN GN hr pass0 (pa_cons (pv 4) (pa_cons pe_int (pa_cons (pv 0) pa_nil))))))
            (pw_or (pt_cmpR op_le (pv 4) (pv 3) (nomark _)) (pw_or1 (PW.pt (pw_and (pt_val (pv 2)) (pw_and (pt_cmpR op_eq (pv 3) (pe_un un_neg pe_int) (nomark _)) (pw_and1 (pt_cmpR op_ne (pv 4) pe_int (nomark _))))))))))
          (pss_one (ps_raise rfl (takes_of rfl rfl rfl rfl) (pmk_err rfl T hr (pa_cons (pv 4) pa_nil)))) pss_nil)
        (pss_one (ps_set (i := 3) scMoms.nd rfl (.inl rfl) (pv 4))))))), ?_⟩
    rcases h with ⟨t, ha, hs, r⟩ | ⟨ad, kd, xs, rfl, hx, h0, h1⟩
    · -- no list, no tuple
      refine ⟨v, rfl, v, t, rfl, ha, fun H1 s1 => ⟨_, rfl, ?_⟩⟩
      rw [hs]
      exact iteT (iteT ⟨_, rfl, fun d hd => r.at s1 d hd⟩)
    · obtain ⟨t, ha⟩ := Tk.arg hx
      refine ⟨.ref ad, rfl, .ref ad, t, rfl, ha, fun H1 s1 => ⟨_, rfl, iteF ?_⟩⟩
      have hx1 : H1 ad = some (Tk kd xs) := s1 _ _ hx
      refine ⟨.ref ad, rfl, ad, xs, rfl, (Tk.ln hx1).or, rfl, _, rfl, ?_⟩
      by_cases hn : xs = []
      · subst hn
        have z0 : V.int ((([] : List V).length : Nat) : Int) = V.int 0 := rfl
        rw [decide_eq_true z0]
        exact iteT ⟨_, rfl, fun d hd => (h0 rfl).at s1 d hd⟩
      · obtain ⟨hA, hB, hC⟩ := h1 hn
        have hl : ¬ V.int (xs.length : Int) = V.int 0 := fun z => by
          have z1 : (xs.length : Int) = 0 := V.int.inj z
          exact hn (List.eq_nil_of_length_eq_zero (by omega))
        rw [decide_eq_false hl]
        refine iteF ⟨1, rfl, ?_⟩
        refine ⟨ad, kd, rfl, ⟨xs, Tk.ln hx1⟩, for_it walk_ln (fun i σ H2 => ∃ a y, σ = [some (.int L), some (.ref ad), some (.bl b), some (.int a), y] ∧ firstBad L b (-1) xs = firstBad L b a (xs.drop i) ∧ Same H H2)
          ⟨-1, _, rfl, rfl, s1⟩ (fun i σ H2 _ ⟨_, _, _, _, s2⟩ => Tk.ln (s2 _ _ hx)) ?_ ?_⟩
        · rintro i x σ H2 H3 hi ⟨a, y, rfl, hb, s2⟩ ⟨rfl, hxi⟩
          have hdr : xs.drop i = x :: xs.drop (i + 1) := by
            obtain ⟨h1, h2⟩ := List.getElem?_eq_some_iff.mp hxi
            rw [← h2]
            exact List.drop_eq_getElem_cons h1
          rw [hdr] at hb
          obtain ⟨tx, hax⟩ := hA x (List.mem_of_getElem? hxi)
          refine ⟨x, rfl, .int L, rfl, x, tx, 0, L, rfl, hax.same s2, _, rfl, ?_⟩
          have bad : wrong1 L b a x = true → ∀ d, H3 d = none → E (.ref C) (some d) (upd H3 d (.xd [(("told" : Str), x)])) := fun z d hd => by
            have e : firstBad L b (-1) xs = some x := by
              rw [hb]
              exact if_pos z
            exact (hB x e).at s2 d hd
          have good : wrong1 L b a x = false → firstBad L b (-1) xs = firstBad L b (intOf x) (xs.drop (i + 1)) := fun z => by
            rw [hb]
            exact if_neg (by rw [z]; exact Bool.false_ne_true)
          cases x with
          | int j =>
            by_cases c1 : (decide (0 ≤ j) && decide (j ≤ L)) = true
            · rw [show isRange (.int j) 0 L = true from c1]
              refine iteF ⟨.int j, rfl, .int a, rfl, j, a, rfl, rfl, _, rfl, ?_⟩
              by_cases c2 : j ≤ a
              · rw [decide_eq_true c2]
                refine iteT (iteT ⟨_, rfl, _, rfl, bad ?_⟩)
                show (!(decide (0 ≤ j) && decide (j ≤ L)) || (decide (j ≤ a) || (b && (decide (a = -1) && !decide (j = 0))))) = true
                rw [decide_eq_true c2, Bool.true_or, Bool.or_true]
              · rw [decide_eq_false c2]
                have w1 : wrong1 L b a (.int j) = (b && (decide (a = -1) && !decide (j = 0))) := by
                  show (!(decide (0 ≤ j) && decide (j ≤ L)) || (decide (j ≤ a) || (b && (decide (a = -1) && !decide (j = 0))))) = _
                  rw [c1, decide_eq_false c2, Bool.not_true, Bool.false_or, Bool.false_or]
                refine iteF ⟨.bl b, rfl, b, rfl, ?_⟩
                cases b with
                | false => exact iteF (iteF ⟨_, rfl, j, _, rfl, good w1, s2⟩)
                | true =>
                  refine iteT ⟨.int a, rfl, 1, rfl, rfl, _, rfl, ?_⟩
                  by_cases c3 : a = -1
                  · rw [decide_eq_true (show V.int a = V.int (-1) by rw [c3])]
                    refine iteT ⟨.int j, rfl, rfl, _, rfl, ?_⟩
                    by_cases c4 : j = 0
                    · rw [decide_eq_true (show V.int j = V.int 0 by rw [c4])]
                      refine iteF ⟨_, rfl, j, _, rfl, good ?_, s2⟩
                      rw [w1, c4, decide_eq_true (show (0 : Int) = 0 by decide)]
                      cases decide (a = -1) <;> rfl
                    · rw [decide_eq_false (show ¬ V.int j = V.int 0 from fun z => c4 (V.int.inj z))]
                      refine iteT ⟨_, rfl, _, rfl, bad ?_⟩
                      rw [w1, decide_eq_true c3, decide_eq_false c4]
                      rfl
                  · rw [decide_eq_false (show ¬ V.int a = V.int (-1) from fun z => c3 (V.int.inj z))]
                    refine iteF (iteF ⟨_, rfl, j, _, rfl, good ?_, s2⟩)
                    rw [w1, decide_eq_false c3]
                    rfl
            · have c1' : (decide (0 ≤ j) && decide (j ≤ L)) = false := by simpa using c1
              rw [show isRange (.int j) 0 L = false from c1']
              refine iteT (iteT ⟨_, rfl, _, rfl, bad ?_⟩)
              show (!(decide (0 ≤ j) && decide (j ≤ L)) || (decide (j ≤ a) || (b && (decide (a = -1) && !decide (j = 0))))) = true
              rw [c1']
              rfl
          | _ => exact iteT (iteT ⟨_, rfl, _, rfl, bad rfl⟩)
        · rintro σ H2 ⟨a, y, rfl, hb, s2⟩
          rw [List.drop_length] at hb
          exact hC hb H2 s2
end
end K19

/-! the mathematics: no program in sight -/
namespace K19
def iabs (i : Int) : Int := if i < 0 then -i else i
/-- max(a, b), min(a, b) -/
def up (a b : Int) : Int := if b > a then b else a
def dn (a b : Int) : Int := if b < a then b else a
def gmax (l : List Int) : Int := l.foldl up 0
def gmin : List Int → Int
  | [] => 0
  | x :: r => r.foldl dn x
theorem iabs_sym (a b : Int) : iabs (a - b) = iabs (b - a) := by
  unfold iabs
  split <;> split <;> omega
theorem iabs_nonneg (a : Int) : 0 ≤ iabs a := by
  unfold iabs
  split <;> omega
theorem up_le (a b : Int) : a ≤ up a b ∧ b ≤ up a b := by
  unfold up
  split <;> omega
theorem dn_le (a b : Int) : dn a b ≤ a ∧ dn a b ≤ b := by
  unfold dn
  split <;> omega
theorem up_or (a b : Int) : up a b = a ∨ up a b = b := by
  unfold up
  split <;> omega
theorem dn_or (a b : Int) : dn a b = a ∨ dn a b = b := by
  unfold dn
  split <;> omega
theorem fup_le : ∀ (l : List Int) (a : Int), a ≤ l.foldl up a ∧ ∀ y ∈ l, y ≤ l.foldl up a
  | [], a => ⟨Int.le_refl _, fun y h => by cases h⟩
  | x :: r, a => by
    obtain ⟨h1, h2⟩ := fup_le r (up a x)
    obtain ⟨u1, u2⟩ := up_le a x
    refine ⟨Int.le_trans u1 h1, fun y hy => ?_⟩
    rcases List.mem_cons.mp hy with rfl | hy
    · exact Int.le_trans u2 h1
    · exact h2 y hy
theorem fup_or : ∀ (l : List Int) (a : Int), l.foldl up a = a ∨ l.foldl up a ∈ l
  | [], a => .inl rfl
  | x :: r, a => by
    have e : (x :: r).foldl up a = r.foldl up (up a x) := rfl
    rw [e]
    rcases fup_or r (up a x) with h | h
    · rw [h]
      rcases up_or a x with z | z
      · exact .inl z
      · rw [z]
        exact .inr (List.mem_cons_self ..)
    · exact .inr (List.mem_cons_of_mem _ h)
theorem fdn_le : ∀ (l : List Int) (a : Int), l.foldl dn a ≤ a ∧ ∀ y ∈ l, l.foldl dn a ≤ y
  | [], a => ⟨Int.le_refl _, fun y h => by cases h⟩
  | x :: r, a => by
    obtain ⟨h1, h2⟩ := fdn_le r (dn a x)
    obtain ⟨u1, u2⟩ := dn_le a x
    refine ⟨Int.le_trans h1 u1, fun y hy => ?_⟩
    rcases List.mem_cons.mp hy with rfl | hy
    · exact Int.le_trans h1 u2
    · exact h2 y hy
theorem fdn_or : ∀ (l : List Int) (a : Int), l.foldl dn a = a ∨ l.foldl dn a ∈ l
  | [], a => .inl rfl
  | x :: r, a => by
    have e : (x :: r).foldl dn a = r.foldl dn (dn a x) := rfl
    rw [e]
    rcases fdn_or r (dn a x) with h | h
    · rw [h]
      rcases dn_or a x with z | z
      · exact .inl z
      · rw [z]
        exact .inr (List.mem_cons_self ..)
    · exact .inr (List.mem_cons_of_mem _ h)
theorem gmax_eq {l : List Int} {m : Int} (hm : m ∈ l) (hle : ∀ y ∈ l, y ≤ m) (h0 : 0 ≤ m) : gmax l = m := by
  have h1 := (fup_le l 0).2 m hm
  have h2 : l.foldl up 0 ≤ m := by
    rcases fup_or l 0 with z | z
    · rw [z]
      exact h0
    · exact hle _ z
  exact Int.le_antisymm h2 h1
theorem gmax_nonneg (l : List Int) : 0 ≤ gmax l := (fup_le l 0).1
theorem gmin_mem : ∀ {l : List Int}, l ≠ [] → gmin l ∈ l
  | [], h => absurd rfl h
  | x :: r, _ => by
    rcases fdn_or r x with z | z
    · show r.foldl dn x ∈ x :: r
      rw [z]
      exact List.mem_cons_self ..
    · exact List.mem_cons_of_mem _ z
theorem gmin_le : ∀ {l : List Int} {y : Int}, y ∈ l → gmin l ≤ y
  | x :: r, y, h => by
    obtain ⟨h1, h2⟩ := fdn_le r x
    rcases List.mem_cons.mp h with rfl | h
    · exact h1
    · exact h2 y h
theorem ne_nil_of_mem {α : Type} {l : List α} {x : α} (h : x ∈ l) : l ≠ [] := fun z => by
  rw [z] at h
  cases h
theorem gmin_eq {l : List Int} {m : Int} (hm : m ∈ l) (hle : ∀ y ∈ l, m ≤ y) : gmin l = m :=
  Int.le_antisymm (gmin_le hm) (hle _ (gmin_mem (ne_nil_of_mem hm)))
/-! ### the nearest kept moments -/
def nearOn (ms : List Int) (t : Int) : Int := ((ms.filter fun m => decide (m ≤ t)).getLast?).getD 0
def nearer (t : Int) (f m : Int) : Int := if iabs (m - t) < iabs (f - t) then m else f
def nearBoth (ms : List Int) (t : Int) : Int := ms.foldl (nearer t) (ms.headD 0)
theorem nearer_or (t f m : Int) : nearer t f m = f ∨ nearer t f m = m := by
  unfold nearer
  split
  · exact .inr rfl
  · exact .inl rfl
theorem nearer_le (t f m : Int) : iabs (nearer t f m - t) ≤ iabs (f - t) ∧ iabs (nearer t f m - t) ≤ iabs (m - t) := by
  unfold nearer
  split <;> omega
theorem near_fold : ∀ (ms : List Int) (t f : Int), (ms.foldl (nearer t) f = f ∨ ms.foldl (nearer t) f ∈ ms) ∧ iabs (ms.foldl (nearer t) f - t) ≤ iabs (f - t) ∧ ∀ m ∈ ms, iabs (ms.foldl (nearer t) f - t) ≤ iabs (m - t)
  | [], t, f => ⟨.inl rfl, Int.le_refl _, fun m h => by cases h⟩
  | x :: r, t, f => by
    obtain ⟨h1, h2, h3⟩ := near_fold r t (nearer t f x)
    obtain ⟨n1, n2⟩ := nearer_le t f x
    have e : (x :: r).foldl (nearer t) f = r.foldl (nearer t) (nearer t f x) := rfl
    rw [e]
    refine ⟨?_, Int.le_trans h2 n1, fun m hm => ?_⟩
    · rcases h1 with z | z
      · rw [z]
        rcases nearer_or t f x with y | y
        · exact .inl y
        · rw [y]
          exact .inr (List.mem_cons_self ..)
      · exact .inr (List.mem_cons_of_mem _ z)
    · rcases List.mem_cons.mp hm with rfl | hm
      · exact Int.le_trans h2 n2
      · exact h3 m hm
theorem near_both {ms : List Int} (hn : ms ≠ []) (t : Int) : nearBoth ms t ∈ ms ∧ ∀ m ∈ ms, iabs (nearBoth ms t - t) ≤ iabs (m - t) := by
  cases ms with
  | nil => exact absurd rfl hn
  | cons x r =>
    obtain ⟨h1, h2, h3⟩ := near_fold (x :: r) t x
    refine ⟨?_, h3⟩
    rcases h1 with z | z
    · show (x :: r).foldl (nearer t) x ∈ x :: r
      rw [z]
      exact List.mem_cons_self ..
    · exact z
def steps (ms : List Int) (both : Bool) (t : Int) : List Int := if both = true then ms.map (fun m => iabs (t - m)) else (ms.filter fun m => decide (m ≤ t)).map fun m => t - m
def far (last : Nat) (ms : List Int) (both : Bool) : Int := gmax ((List.range (last + 1)).map fun (t : Nat) => gmin (steps ms both (t : Int)))
def reachOn (last : Nat) (ms : List Int) : Int := gmax ((List.range (last + 1)).map fun (t : Nat) => (t : Int) - nearOn ms t)
def reachBoth (last : Nat) (ms : List Int) : Int := gmax ((List.range (last + 1)).map fun (t : Nat) => iabs ((t : Int) - nearBoth ms t))
theorem both_step {ms : List Int} (hn : ms ≠ []) (t : Int) : gmin (steps ms true t) = iabs (t - nearBoth ms t) := by
  obtain ⟨h1, h2⟩ := near_both hn t
  refine gmin_eq (List.mem_map.mpr ⟨_, h1, rfl⟩) fun y hy => ?_
  obtain ⟨m, hm, rfl⟩ := List.mem_map.mp hy
  rw [iabs_sym t, iabs_sym t]
  exact h2 m hm
theorem reach_far_both {ms : List Int} (hn : ms ≠ []) (last : Nat) : reachBoth last ms = far last ms true := by
  unfold reachBoth far
  congr 1
  refine List.map_congr_left fun t _ => ?_
  rw [both_step hn]
/-- moments that may be kept: ascending, between a and last -/
def okM (last : Int) : Int → List Int → Prop
  | _, [] => True
  | a, m :: r => a < m ∧ 0 ≤ m ∧ m ≤ last ∧ okM last m r
def okB (last : Int) : Int → List Int → Bool
  | _, [] => true
  | a, m :: r => decide (a < m) && (decide (0 ≤ m) && (decide (m ≤ last) && okB last m r))
theorem okM_of : ∀ {l : List Int} {last a : Int}, okB last a l = true → okM last a l
  | [], _, _, _ => True.intro
  | m :: r, last, a, h => by
    unfold okB at h
    simp only [Bool.and_eq_true, decide_eq_true_eq] at h
    exact ⟨h.1, h.2.1, h.2.2.1, okM_of h.2.2.2⟩
theorem okM_mem : ∀ {l : List Int} {last a : Int}, okM last a l → ∀ m ∈ l, a < m ∧ 0 ≤ m ∧ m ≤ last
  | x :: r, last, a, h, m, hm => by
    rcases List.mem_cons.mp hm with rfl | hm
    · exact ⟨h.1, h.2.1, h.2.2.1⟩
    · have q := okM_mem h.2.2.2 m hm
      exact ⟨Int.lt_trans h.1 q.1, q.2⟩
theorem okM_pair : ∀ {l : List Int} {last a : Int}, okM last a l → l.Pairwise (· < ·)
  | [], _, _, _ => .nil
  | x :: r, last, a, h => .cons (fun m hm => (okM_mem h.2.2.2 m hm).1) (okM_pair h.2.2.2)
theorem okM_le : ∀ {l : List Int} {last a b : Int}, okM last a l → b ≤ a → okM last b l
  | [], _, _, _, _, _ => True.intro
  | x :: r, last, a, b, h, hb => ⟨Int.lt_of_le_of_lt hb h.1, h.2⟩
theorem last_greatest : ∀ {l : List Int} {z : Int}, l.Pairwise (· < ·) → l.getLast? = some z → ∀ y ∈ l, y ≤ z
  | [x], z, _, h, y, hy => by
    have e : x = z := Option.some.inj h
    rcases List.mem_cons.mp hy with rfl | hy
    · rw [e]
      exact Int.le_refl _
    · cases hy
  | x :: w :: r, z, hp, h, y, hy => by
    rw [List.getLast?_cons_cons] at h
    cases hp with
    | cons h1 h2 =>
      have q := last_greatest h2 h
      rcases List.mem_cons.mp hy with rfl | hy
      · have a1 := h1 w (List.mem_cons_self ..)
        have a2 := q w (List.mem_cons_self ..)
        omega
      · exact q y hy
theorem on_step {ms : List Int} {last a t : Int} (hok : okM last a ms) (h0 : (0 : Int) ∈ ms) (ht : 0 ≤ t) : gmin (steps ms false t) = t - nearOn ms t := by
  have hp : (ms.filter fun m => decide (m ≤ t)).Pairwise (· < ·) := (okM_pair hok).filter _
  have hm : (0 : Int) ∈ ms.filter fun m => decide (m ≤ t) := List.mem_filter.mpr ⟨h0, decide_eq_true ht⟩
  obtain ⟨z, hz⟩ : ∃ z, (ms.filter fun m => decide (m ≤ t)).getLast? = some z := by
    cases e : (ms.filter fun m => decide (m ≤ t)).getLast? with
    | none =>
      rw [List.getLast?_eq_none_iff] at e
      rw [e] at hm
      cases hm
    | some z => exact ⟨z, rfl⟩
  have e : nearOn ms t = z := by
    unfold nearOn
    rw [hz]
    rfl
  rw [e]
  refine gmin_eq (List.mem_map.mpr ⟨z, List.mem_of_getLast? hz, rfl⟩) fun y hy => ?_
  obtain ⟨m, hm', rfl⟩ := List.mem_map.mp hy
  have := last_greatest hp hz m hm'
  omega
theorem reach_far_on {ms : List Int} {last : Nat} {b a : Int} (hok : okM b a ms) (h0 : (0 : Int) ∈ ms) : reachOn last ms = far last ms false := by
  unfold reachOn far
  congr 1
  refine List.map_congr_left fun t _ => ?_
  rw [on_step hok h0 (Int.natCast_nonneg t)]
/-! ### the choices of moments -/
def moreLots (many : Nat) (ls : List (List Int)) (t : Nat) : List (List Int) := ls ++ (ls.filter fun l => decide (l.length < many)).map fun l => l ++ [(t : Int)]
def lots0 (last many : Nat) : List (List Int) := (List.range (last + 1)).foldl (moreLots many) [[]]
def choices (last many : Nat) : List (List Int) := (lots0 last many).filter fun l => !l.isEmpty
/-! ### the least reaches, the even moments -/
def stepOf (last many : Nat) : Nat := (last + many) / many
def dist (last many : Nat) : Nat := (last + many) / (2 * many)
def leastOn (last many : Nat) : Int := (stepOf last many : Int) - 1
def leastBoth (last many : Nat) : Int := (dist last many : Int)
def firsts (l : List Int) : Bool := decide (l.headD 1 = 0)
def check1 (last many : Nat) : Bool := (choices last many).all fun l => okB last (-1) l && !l.isEmpty
def check2 (last many : Nat) : Bool := decide ((lots0 last many).length ≤ 600)
def check3 (last many : Nat) : Bool := decide (gmin (((choices last many).filter firsts).map fun l => far last l false) = leastOn last many)
def check4 (last many : Nat) : Bool := decide (gmin ((choices last many).map fun l => far last l true) = leastBoth last many)
def checks (c : Nat → Nat → Bool) : Bool := (List.range 9).all fun last => (List.range 4).all fun m => c last (m + 1)
theorem of_checks {c : Nat → Nat → Bool} (h : checks c = true) {last many : Nat} (h1 : last < 9) (h2 : 1 ≤ many) (h3 : many ≤ 4) : c last many = true := by
  unfold checks at h
  rw [List.all_eq_true] at h
  have q := h last (List.mem_range.mpr h1)
  rw [List.all_eq_true] at q
  have z := q (many - 1) (List.mem_range.mpr (by omega))
  rw [show many - 1 + 1 = many by omega] at z
  exact z
theorem check1_all : checks check1 = true := by decide +kernel
theorem check2_all : checks check2 = true := by decide +kernel
theorem check3_all : checks check3 = true := by decide +kernel
theorem check4_all : checks check4 = true := by decide +kernel
end K19

/-! the even moments -/
namespace K19
theorem stepOf_pos {last many : Nat} (hm : 1 ≤ many) : 1 ≤ stepOf last many := by
  unfold stepOf
  exact (Nat.le_div_iff_mul_le hm).mpr (by omega)
theorem stepOf_le {last many : Nat} (hm : 1 ≤ many) : stepOf last many ≤ last + 1 := by
  unfold stepOf
  refine Nat.div_le_of_le_mul ?_
  rw [Nat.mul_add, Nat.mul_one]
  have := Nat.le_mul_of_pos_left last hm
  omega
theorem stepOf_cover {last many : Nat} (hm : 1 ≤ many) : last < many * stepOf last many := by
  have h := Nat.lt_mul_div_succ (last + many) hm
  rw [Nat.mul_add, Nat.mul_one] at h
  unfold stepOf
  omega
theorem stepOf_low {last many : Nat} : many * stepOf last many ≤ last + many := Nat.mul_div_le _ _
theorem dist_cover {last many : Nat} (hm : 1 ≤ many) : last < many * (2 * dist last many + 1) := by
  have h := Nat.lt_mul_div_succ (last + many) (show 0 < 2 * many by omega)
  rw [Nat.mul_add, Nat.mul_one] at h
  have e : many * (2 * dist last many + 1) = 2 * many * dist last many + many := by
    rw [Nat.mul_add, Nat.mul_one, ← Nat.mul_assoc, Nat.mul_comm many 2]
  rw [e]
  unfold dist
  omega
theorem dist_low {last many : Nat} : 2 * many * dist last many ≤ last + many := Nat.mul_div_le _ _
theorem dist_le {last many : Nat} (hm : 1 ≤ many) : dist last many ≤ last := by
  unfold dist
  cases last with
  | zero =>
    rw [Nat.div_eq_of_lt (by omega)]
    exact Nat.le_refl _
  | succ l =>
    refine Nat.div_le_of_le_mul ?_
    have e : 2 * many * (l + 1) = many * (l + 1) + many * (l + 1) := by
      rw [Nat.mul_assoc, Nat.two_mul]
    rw [e]
    have h1 := Nat.le_mul_of_pos_left (l + 1) hm
    have h2 := Nat.le_mul_of_pos_right many (show 0 < l + 1 by omega)
    omega
theorem floor_is {a b q : Int} (hb : 0 < b) (h1 : 0 ≤ b * q + a) (h2 : b * q + a < b) : -(a.fdiv b) = q := by
  rw [Int.fdiv_eq_ediv_of_nonneg _ (Int.le_of_lt hb)]
  have h : a / b = -q ∧ a % b = b * q + a := (Int.ediv_emod_unique hb).mpr ⟨by rw [Int.mul_neg]; omega, h1, h2⟩
  rw [h.1]
  omega
theorem raw_on {last many : Nat} (hm : 1 ≤ many) : -((-((last : Int) + 1)).fdiv (many : Int)) - 1 = leastOn last many := by
  have c := stepOf_cover (last := last) hm
  have l := stepOf_low (last := last) (many := many)
  have e : ((many * stepOf last many : Nat) : Int) = (many : Int) * (stepOf last many : Int) := Int.natCast_mul _ _
  rw [floor_is (q := (stepOf last many : Int)) (by omega) (by rw [← e]; omega) (by rw [← e]; omega)]
  rfl
theorem law_on {last many : Nat} : (((last : Int) + (many : Int)).fdiv (many : Int)) - 1 = leastOn last many := by
  rw [Int.fdiv_eq_ediv_of_nonneg _ (Int.natCast_nonneg _)]
  show _ = ((((last + many) / many : Nat) : Int)) - 1
  rw [Int.natCast_ediv, Int.natCast_add]
theorem up0 {a : Nat} : up 0 (a : Int) = a := by
  unfold up
  split <;> omega
theorem raw_both {last many : Nat} (hm : 1 ≤ many) : up 0 (-((-((last : Int) + 1 - (many : Int))).fdiv (2 * (many : Int)))) = leastBoth last many := by
  have c := dist_cover (last := last) hm
  have l := dist_low (last := last) (many := many)
  have e : ((2 * many * dist last many : Nat) : Int) = 2 * (many : Int) * (dist last many : Int) := by
    rw [Int.natCast_mul, Int.natCast_mul]
    rfl
  have e2 : many * (2 * dist last many + 1) = 2 * many * dist last many + many := by
    rw [Nat.mul_add, Nat.mul_one, ← Nat.mul_assoc, Nat.mul_comm many 2]
  rw [floor_is (q := (dist last many : Int)) (by omega) (by rw [← e]; omega) (by rw [← e]; omega)]
  exact up0
theorem law_both {last many : Nat} : up 0 (((last : Int) + (many : Int)).fdiv (2 * (many : Int))) = leastBoth last many := by
  rw [Int.fdiv_eq_ediv_of_nonneg _ (by omega)]
  have e : ((last : Int) + (many : Int)) / (2 * (many : Int)) = (dist last many : Int) := by
    show _ = (((last + many) / (2 * many) : Nat) : Int)
    rw [Int.natCast_ediv, Int.natCast_add, Int.natCast_mul]
    rfl
  rw [e]
  exact up0
/-! ### the lists -/
def evenOn (last many : Nat) : List Int := (List.range (last / stepOf last many + 1)).map fun k => ((stepOf last many * k : Nat) : Int)
def evenAt (last many k : Nat) : Int := dn ((dist last many + (2 * dist last many + 1) * k : Nat) : Int) (last : Int)
def evenBoth (last many : Nat) : List Int := (List.range (last / (2 * dist last many + 1) + 1)).map (evenAt last many)
theorem range_lt (m : Nat) : ∀ n : Nat, ((List.range n).filter fun k => decide (k < m)) = List.range (min m n)
  | 0 => by simp
  | n + 1 => by
    rw [List.range_succ, List.filter_append, range_lt m n]
    by_cases h : n < m
    · rw [show min m n = n by omega, show min m (n + 1) = n + 1 by omega, List.range_succ]
      simp [h]
    · rw [show min m n = m by omega, show min m (n + 1) = m by omega]
      simp [h]
theorem range_mul {last c n : Nat} (hc : 1 ≤ c) (hn : last / c + 1 ≤ n) : ((List.range n).filter fun k => decide (c * k ≤ last)) = List.range (last / c + 1) := by
  have e : (fun k : Nat => decide (c * k ≤ last)) = fun k => decide (k < last / c + 1) := by
    funext k
    refine decide_eq_decide.mpr ?_
    rw [Nat.lt_succ_iff, Nat.le_div_iff_mul_le hc, Nat.mul_comm]
  rw [e, range_lt, Nat.min_eq_left hn]
theorem evens_first {last many : Nat} (hm : 1 ≤ many) : (((List.range (last + 1)).filter fun k => decide (stepOf last many * k ≤ last)).map fun k => ((stepOf last many * k : Nat) : Int)) = evenOn last many := by
  rw [range_mul (stepOf_pos hm) (by have := Nat.div_le_self last (stepOf last many); omega)]
  rfl
theorem evens_second {last many : Nat} :
    (((List.range (last + 2)).filter fun k => decide (dist last many + (2 * dist last many + 1) * k ≤ last + dist last many)).map (evenAt last many)) = evenBoth last many := by
  have e : (fun k : Nat => decide (dist last many + (2 * dist last many + 1) * k ≤ last + dist last many)) = fun k => decide ((2 * dist last many + 1) * k ≤ last) := by
    funext k
    refine decide_eq_decide.mpr ?_
    omega
  rw [e, range_mul (by omega) (by have := Nat.div_le_self last (2 * dist last many + 1); omega)]
  rfl
theorem okM_range : ∀ (n : Nat) (f : Nat → Int) (last a : Int), (∀ k, k < n → 0 ≤ f k ∧ f k ≤ last) → (∀ k, k + 1 < n → f k < f (k + 1)) → (0 < n → a < f 0) → okM last a ((List.range n).map f)
  | 0, _, _, _, _, _, _ => True.intro
  | n + 1, f, last, a, h1, h2, h3 => by
    rw [List.range_succ_eq_map, List.map_cons, List.map_map]
    refine ⟨h3 (by omega), (h1 0 (by omega)).1, (h1 0 (by omega)).2, okM_range n (f ∘ Nat.succ) last (f 0) (fun k hk => h1 (k + 1) (by omega)) (fun k hk => h2 (k + 1) (by omega)) (fun hn => h2 0 (by omega))⟩
theorem evenOn_ok {last many : Nat} (hm : 1 ≤ many) : okM last (-1) (evenOn last many) := by
  have p := stepOf_pos (last := last) hm
  refine okM_range _ _ _ _ (fun k hk => ⟨Int.natCast_nonneg _, ?_⟩) (fun k hk => ?_) (fun _ => ?_)
  · have h := (Nat.le_div_iff_mul_le p).mp (Nat.lt_succ_iff.mp hk)
    rw [Nat.mul_comm] at h
    exact Int.ofNat_le.mpr h
  · refine Int.ofNat_lt.mpr ?_
    rw [Nat.mul_add, Nat.mul_one]
    omega
  · rw [Nat.mul_zero]
    decide
theorem evenOn_zero {last many : Nat} : (evenOn last many).head? = some 0 := by
  unfold evenOn
  rw [List.range_succ_eq_map, List.map_cons, List.head?_cons, Nat.mul_zero]
  rfl
theorem evenOn_len {last many : Nat} (hm : 1 ≤ many) : (evenOn last many).length ≤ many := by
  unfold evenOn
  rw [List.length_map, List.length_range]
  have c := stepOf_cover (last := last) hm
  rw [Nat.mul_comm] at c
  exact Nat.div_lt_of_lt_mul c
theorem evenBoth_len {last many : Nat} (hm : 1 ≤ many) : (evenBoth last many).length ≤ many := by
  unfold evenBoth
  rw [List.length_map, List.length_range]
  have c := dist_cover (last := last) hm
  rw [Nat.mul_comm] at c
  exact Nat.div_lt_of_lt_mul c
theorem even_below {last many k : Nat} (hk : k < last / (2 * dist last many + 1) + 1) : (2 * dist last many + 1) * k ≤ last := by
  have h := (Nat.le_div_iff_mul_le (show 0 < 2 * dist last many + 1 by omega)).mp (Nat.lt_succ_iff.mp hk)
  rw [Nat.mul_comm] at h
  exact h
theorem evenBoth_ok {last many : Nat} (hm : 1 ≤ many) : okM last (-1) (evenBoth last many) := by
  refine okM_range _ _ _ _ (fun k hk => ?_) (fun k hk => ?_) (fun _ => ?_)
  · unfold evenAt dn
    split <;> omega
  · have h := even_below hk
    rw [Nat.mul_add, Nat.mul_one] at h
    have e : (2 * dist last many + 1) * (k + 1) = (2 * dist last many + 1) * k + (2 * dist last many + 1) := by rw [Nat.mul_add, Nat.mul_one]
    unfold evenAt dn
    rw [e]
    split <;> split <;> omega
  · unfold evenAt dn
    split <;> omega
theorem evenBoth_ne {last many : Nat} : evenBoth last many ≠ [] := by
  unfold evenBoth
  rw [List.range_succ_eq_map, List.map_cons]
  exact List.cons_ne_nil _ _
theorem evenOn_near {last many t : Nat} (hm : 1 ≤ many) (ht : t ≤ last) : nearOn (evenOn last many) (t : Int) = ((stepOf last many * (t / stepOf last many) : Nat) : Int) := by
  have p := stepOf_pos (last := last) hm
  have hle : t / stepOf last many ≤ last / stepOf last many := Nat.div_le_div_right ht
  unfold nearOn evenOn
  rw [List.filter_map]
  have e : ((fun m : Int => decide (m ≤ (t : Int))) ∘ fun k : Nat => ((stepOf last many * k : Nat) : Int)) = fun k => decide (stepOf last many * k ≤ t) := by
    funext k
    exact decide_eq_decide.mpr Int.ofNat_le
  rw [e]
  have e2 : ((List.range (last / stepOf last many + 1)).filter fun k => decide (stepOf last many * k ≤ t)) = List.range (t / stepOf last many + 1) := range_mul p (by omega)
  rw [e2, List.range_succ, List.map_append, List.map_cons, List.map_nil, List.getLast?_concat]
  rfl
theorem evenOn_reach {last many : Nat} (hm : 1 ≤ many) : reachOn last (evenOn last many) = leastOn last many := by
  have p := stepOf_pos (last := last) hm
  have l := stepOf_le (last := last) hm
  have e : ((List.range (last + 1)).map fun (t : Nat) => (t : Int) - nearOn (evenOn last many) t) = (List.range (last + 1)).map fun (t : Nat) => ((t % stepOf last many : Nat) : Int) := by
    refine List.map_congr_left fun t ht => ?_
    have h := List.mem_range.mp ht
    rw [evenOn_near hm (by omega)]
    have := Nat.div_add_mod t (stepOf last many)
    omega
  unfold reachOn
  rw [e]
  unfold leastOn
  refine gmax_eq (List.mem_map.mpr ⟨stepOf last many - 1, List.mem_range.mpr (by omega), ?_⟩) (fun y hy => ?_) (by omega)
  · rw [Nat.mod_eq_of_lt (by omega)]
    omega
  · obtain ⟨t, _, rfl⟩ := List.mem_map.mp hy
    have := Nat.mod_lt t (show stepOf last many > 0 from p)
    omega
theorem evenBoth_reach {last many : Nat} (hm : 1 ≤ many) : reachBoth last (evenBoth last many) = leastBoth last many := by
  have dl := dist_le (last := last) hm
  rw [reach_far_both evenBoth_ne]
  unfold far leastBoth
  refine gmax_eq (List.mem_map.mpr ⟨0, List.mem_range.mpr (by omega), ?_⟩) (fun y hy => ?_) (Int.natCast_nonneg _)
  · refine gmin_eq (List.mem_map.mpr ⟨evenAt last many 0, List.mem_map.mpr ⟨0, List.mem_range.mpr (Nat.succ_pos _), rfl⟩, ?_⟩) fun y hy => ?_
    · unfold evenAt dn iabs
      rw [Nat.mul_zero]
      split <;> split <;> omega
    · obtain ⟨m, hm', rfl⟩ := List.mem_map.mp hy
      obtain ⟨k, _, rfl⟩ := List.mem_map.mp hm'
      unfold evenAt dn iabs
      split <;> split <;> omega
  · obtain ⟨t, ht, rfl⟩ := List.mem_map.mp hy
    have h := List.mem_range.mp ht
    refine Int.le_trans (gmin_le (List.mem_map.mpr ⟨evenAt last many (t / (2 * dist last many + 1)), List.mem_map.mpr ⟨t / (2 * dist last many + 1), List.mem_range.mpr ?_, rfl⟩, rfl⟩)) ?_
    · exact Nat.lt_succ_iff.mpr (Nat.div_le_div_right (by omega))
    · have e := Nat.div_add_mod t (2 * dist last many + 1)
      have r := Nat.mod_lt t (show 2 * dist last many + 1 > 0 by omega)
      unfold evenAt dn iabs
      split <;> split <;> omega
end K19

/-! nearest_on, nearest_both, reach_on, reach_both -/
namespace K19
open PySem PySem.Spec PyProof.Rows L2
abbrev sNearOn : Stmt := topS 13
abbrev sNearBoth : Stmt := topS 14
abbrev sReachOn : Stmt := topS 15
abbrev sReachBoth : Stmt := topS 16
theorem scNearOn : FnScope ["moments", "t", "found", "moment"] ["moments", "t"] (defScope sNearOn) := ⟨rfl, rfl, rfl, by decide +kernel, rfl, by decide +kernel, by decide +kernel⟩
theorem scNearBoth : FnScope ["moments", "t", "found", "moment"] ["moments", "t"] (defScope sNearBoth) := ⟨rfl, rfl, rfl, by decide +kernel, rfl, by decide +kernel, by decide +kernel⟩
theorem scReachOn : FnScope ["last", "moments", "t"] ["last", "moments"] (defScope sReachOn) := ⟨rfl, rfl, rfl, by decide +kernel, rfl, by decide +kernel, by decide +kernel⟩
theorem scReachBoth : FnScope ["last", "moments", "t"] ["last", "moments"] (defScope sReachBoth) := ⟨rfl, rfl, rfl, by decide +kernel, rfl, by decide +kernel, by decide +kernel⟩
theorem samePut {H H1 : Hp} {D : Addr} {o : HO} (s : Same H H1) (h : H D = none) : Same H (upd H1 D o) := fun b x e => by
  rw [upd_ne (ne_of_none e h)]
  exact s b x e
theorem get_int {ns : List Int} {i : Nat} {x : V} (h : (ns.map V.int)[i]? = some x) : ∃ z, ns[i]? = some z ∧ x = V.int z := by
  rw [List.getElem?_map] at h
  cases e : ns[i]? with
  | none =>
    rw [e] at h
    cases h
  | some z =>
    rw [e] at h
    exact ⟨z, rfl, (Option.some.inj h).symm⟩
theorem take_more {α : Type} {l : List α} {i : Nat} {z : α} (h : l[i]? = some z) : l.take (i + 1) = l.take i ++ [z] := by
  rw [List.take_add_one, h]
  rfl
theorem ltLine {n m : Nat} (h : n ≤ m) (hm : m ≤ 1000) : n < sizeLine := Nat.lt_of_le_of_lt (Nat.le_trans h hm) (by decide)
theorem leLine {n : Nat} (h : n ≤ 1000) : n ≤ sizeLine := Nat.le_of_lt (Nat.lt_of_le_of_lt h (by decide))
def spNearOn : Sp := fun vs H Q _ => ∃ (ad : Addr) (kd : Bool) (ns : List Int) (t : Int), vs = [.ref ad, .int t] ∧ H ad = some (Tk kd (ns.map V.int)) ∧ ns.length ≤ 1000 ∧ (ns.filter fun m => decide (m ≤ t)) ≠ [] ∧
  ∀ H', Same H H' → Q (.int (nearOn ns t)) H'
def spNearBoth : Sp := fun vs H Q _ => ∃ (ad : Addr) (kd : Bool) (ns : List Int) (t : Int), vs = [.ref ad, .int t] ∧ H ad = some (Tk kd (ns.map V.int)) ∧ ns ≠ [] ∧ Q (.int (nearBoth ns t)) H
section
variable {P : Program} {w : World} {K : PySem.W.Frag} {mg : Str → Option Value} {base : Heap}
theorem ok_near_on {f : Addr} {fd : FuncData} (B : Bt mg) (F : Df K mg "nearest_on" sNearOn ["moments", "t"] f fd) : FnOk P w K mg base CX0 1 f fd ["moments", "t"] spNearOn := by
  refine F.F.ok scNearOn (fun vs H Q E h => ?_) (fun cdv A outer s H vs Q E hr h => ?_)
  · obtain ⟨ad, kd, ns, t, rfl, _⟩ := h
    rfl
  · obtain ⟨ad, kd, ns, t, rfl, hx, hlen, hne, q⟩ := h
    refine ⟨_, pss_cons (ps_setLc (i := 2) (own := [("moment", 3)]) (g := gName 3) rfl scNearOn.nd rfl rfl (sw_true rfl rfl rfl (by decide +kernel)) (pi_ln 0)
        (blkOk_by (own := [("moment", 3)]) (N := ["moments", "t", "found", "moment"]) (sc := defScope sNearOn) (by decide +kernel))
        (fun _ _ _ _ _ => pg_name (i := 3) scNearOn.nd rfl (.inl rfl)) (fun _ _ _ _ _ => pts_one (pt_cmpR op_le (pv 3) (pv 1) (nomark _))) (fun _ _ _ _ _ => pv 3))
      (pss_one (ps_ret (pe_ifExp (pt_cmpR op_gt (pe_callB call_len_seq (by rfl) B.len PySem.boot_len (pa_cons (pv 2) pa_nil)) pe_int (nomark _)) (pe_ix ix_list (pv 2) (pe_un un_neg pe_int) (fun _ _ => rfl)) pe_non))), ?_⟩
    refine ⟨ad, kd, rfl, ⟨_, Tk.ln hx⟩, fun D nD => ?_⟩
    refine lc_it walk_ln (fun i H' => Same H H' ∧ H' D = some (.lst (((ns.take i).filter fun m => decide (m ≤ t)).map V.int))) ⟨same_upd nD, upd_same⟩ (fun i H' _ h => Tk.ln (h.1 _ _ hx)) ?_ ?_
    · rintro i x H2 H3 hi ⟨s2, e2⟩ ⟨rfl, hxi⟩
      obtain ⟨z, hz, rfl⟩ := get_int hxi
      have et : (ns.take (i + 1)).filter (fun m => decide (m ≤ t)) = (ns.take i).filter (fun m => decide (m ≤ t)) ++ [z].filter fun m => decide (m ≤ t) := by
        rw [take_more hz, List.filter_append]
      refine ⟨rfl, .int z, rfl, .int t, rfl, z, t, rfl, rfl, _, rfl, ?_⟩
      by_cases c : z ≤ t
      · rw [decide_eq_true c]
        refine iteT ⟨.int z, rfl, _, e2, ?_, samePut s2 nD, ?_⟩
        · rw [List.length_map]
          exact ltLine (Nat.le_trans (List.length_filter_le _ _) (by rw [List.length_take]; exact Nat.min_le_right _ _)) hlen
        · rw [upd_same, et, List.map_append, List.filter_cons_of_pos (by exact decide_eq_true c)]
          rfl
      · rw [decide_eq_false c]
        refine iteF ⟨s2, ?_⟩
        rw [e2, et, List.filter_cons_of_neg (by simpa using c), List.filter_nil, List.append_nil]
    · rintro H2 ⟨s2, e2⟩
      rw [List.length_map, List.take_length] at e2
      have hp : (0 : Int) < (((ns.filter fun m => decide (m ≤ t)).map V.int).length : Int) := by
        rw [List.length_map]
        have := List.length_pos_iff.mpr hne
        omega
      refine ⟨.ref D, rfl, D, _, rfl, .inl (.inl (.inl e2)), _, 0, rfl, rfl, _, rfl, ?_⟩
      rw [decide_eq_true hp]
      refine iteT ⟨.ref D, rfl, 1, rfl, D, _, -1, .int (nearOn ns t), rfl, rfl, .inl (.inl e2), ?_, q H2 s2⟩
      have hz : (ns.filter fun m => decide (m ≤ t)).map V.int = ((ns.filter fun m => decide (m ≤ t)).dropLast.map V.int) ++ [.int ((ns.filter fun m => decide (m ≤ t)).getLast hne)] := by
        rw [← List.map_singleton, ← List.map_append, List.dropLast_concat_getLast]
      have en : nearOn ns t = (ns.filter fun m => decide (m ≤ t)).getLast hne := by
        unfold nearOn
        rw [List.getLast?_eq_getLast hne]
        rfl
      rw [hz, en]
      exact atI_last _ _
theorem ok_near_both {f : Addr} {fd : FuncData} (B : Bt mg) (F : Df K mg "nearest_both" sNearBoth ["moments", "t"] f fd) : FnOk P w K mg base CX0 1 f fd ["moments", "t"] spNearBoth := by
  refine F.F.ok scNearBoth (fun vs H Q E h => ?_) (fun cdv A outer s H vs Q E hr h => ?_)
  · obtain ⟨ad, kd, ns, t, rfl, _⟩ := h
    rfl
  · obtain ⟨ad, kd, ns, t, rfl, hx, hne, q⟩ := h
    refine ⟨_, pss_cons (ps_set (i := 2) scNearBoth.nd rfl (.inl rfl) (pe_ix ix_seq (pv 0) pe_int (fun _ _ => rfl)))
      (pss_cons (ps_for PassesOwn.never rfl (pi_ln 0) (pg_name (i := 3) scNearBoth.nd rfl (.inl rfl))
        (pss_one (ps_if (pt_cmpR op_lt (pe_callB call_abs (by rfl) B.abs (by decide +kernel) (pa_cons (pe_op op_sub (pv 3) (pv 1)) pa_nil)) (pe_callB call_abs (by rfl) B.abs (by decide +kernel) (pa_cons (pe_op op_sub (pv 2) (pv 1)) pa_nil)) (nomark _))
          (pss_one (ps_set (i := 2) scNearBoth.nd rfl (.inl rfl) (pv 3))) pss_nil)))
      (pss_one (ps_ret (pv 2)))), ?_⟩
    obtain ⟨x0, r0, rfl⟩ : ∃ x r, ns = x :: r := by
      cases ns with
      | nil => exact absurd rfl hne
      | cons x r => exact ⟨x, r, rfl⟩
    have h0 : rIx K (.ref ad) (.int 0) H fun v H1 => v = .int x0 ∧ H1 = H := by
      cases kd with
      | true => exact .inl ⟨ad, _, 0, _, rfl, rfl, Tk.ln hx, atI_nat (j := 0) rfl, rfl, rfl⟩
      | false => exact .inr (.inl ⟨ad, _, 0, _, rfl, rfl, Tk.ln hx, atI_nat (j := 0) rfl, rfl, rfl⟩)
    refine ⟨.ref ad, rfl, ?_⟩
    have h0' : ∀ {Q : VK}, Q (.int x0) H → rIx K (.ref ad) (.int 0) H Q := fun {Q} q => by
      cases kd with
      | true => exact .inl ⟨ad, _, 0, _, rfl, rfl, Tk.ln hx, atI_nat (j := 0) rfl, q⟩
      | false => exact .inr (.inl ⟨ad, _, 0, _, rfl, rfl, Tk.ln hx, atI_nat (j := 0) rfl, q⟩)
    refine h0' ?_
    refine ⟨ad, kd, rfl, ⟨_, Tk.ln hx⟩, for_it walk_ln (fun i σ H2 => ∃ y, σ = [some (.ref ad), some (.int t), some (.int (((x0 :: r0).take i).foldl (nearer t) x0)), y] ∧ H2 = H) ⟨_, rfl, rfl⟩ (fun i σ H2 _ ⟨_, _, e⟩ => by rw [e]; exact Tk.ln hx) ?_ ?_⟩
    · rintro i x σ H2 H3 hi ⟨y, rfl, rfl⟩ ⟨rfl, hxi⟩
      obtain ⟨z, hz, rfl⟩ := get_int hxi
      have et : ((x0 :: r0).take (i + 1)).foldl (nearer t) x0 = nearer t (((x0 :: r0).take i).foldl (nearer t) x0) z := by
        rw [take_more hz, List.foldl_append]
        rfl
      refine ⟨.int z, rfl, .int t, rfl, z, t, rfl, rfl, _, rfl, _, rfl, .int t, rfl, _, t, rfl, rfl, _, rfl, _, _, rfl, rfl, _, rfl, ?_⟩
      refine ite_bool (fun c => ?_) (fun c => ?_)
      · refine ⟨.int z, rfl, some (.int z), ?_, rfl⟩
        rw [et, show nearer t (((x0 :: r0).take i).foldl (nearer t) x0) z = z from if_pos (of_decide_eq_true c)]
        rfl
      · refine ⟨some (.int z), ?_, rfl⟩
        rw [et, show nearer t (((x0 :: r0).take i).foldl (nearer t) x0) z = ((x0 :: r0).take i).foldl (nearer t) x0 from if_neg (of_decide_eq_false c)]
        rfl
    · rintro σ H2 ⟨y, rfl, rfl⟩
      rw [List.length_map, List.take_length]
      exact ⟨_, rfl, q⟩
end
end K19

/-! reach_on, reach_both -/
namespace K19
open PySem PySem.Spec PyProof.Rows L2
theorem good_ns : ∀ {xs : List V} {L a : Int} {b : Bool}, firstBad L b a xs = none → ∃ ns : List Int, xs = ns.map V.int ∧ okM L a ns ∧ (b = true → a = -1 → xs ≠ [] → ns.head? = some 0)
  | [], _, _, _, _ => ⟨[], rfl, True.intro, fun _ _ h => absurd rfl h⟩
  | x :: r, L, a, b, h => by
    have hw : wrong1 L b a x = false := by
      cases e : wrong1 L b a x with
      | false => rfl
      | true =>
        have z : firstBad L b a (x :: r) = some x := if_pos e
        rw [z] at h
        cases h
    have hr : firstBad L b (intOf x) r = none := by
      have z : firstBad L b a (x :: r) = firstBad L b (intOf x) r := if_neg (by rw [hw]; exact Bool.false_ne_true)
      rw [z] at h
      exact h
    cases x with
    | int i =>
      obtain ⟨ns, e1, e2, _⟩ := good_ns hr
      have hw' : (!(decide (0 ≤ i) && decide (i ≤ L)) || (decide (i ≤ a) || (b && (decide (a = -1) && !decide (i = 0))))) = false := hw
      simp only [Bool.or_eq_false_iff, Bool.not_eq_false', Bool.and_eq_true, decide_eq_true_eq, decide_eq_false_iff_not] at hw'
      obtain ⟨⟨h1, h2⟩, h3, h4⟩ := hw'
      refine ⟨i :: ns, by rw [e1]; rfl, ⟨by omega, h1, h2, e2⟩, fun hb ha _ => ?_⟩
      rw [hb, ha] at h4
      have h5 : i = 0 := by simpa using h4
      rw [h5]
      rfl
    | _ => exact nomatch (show true = false from hw)
/-- what is asked of moments that are handed in, and what is known where they are good -/
def Moms (L : Int) (b : Bool) (C : Addr) (v : V) (H : Hp) (E : XK) (good : List Int → Prop) : Prop :=
  (∃ t, Arg H v t ∧ isSeq v = false ∧ Raised C .non H E) ∨
    ∃ (ad : Addr) (kd : Bool) (xs : List V), v = .ref ad ∧ H ad = some (Tk kd xs) ∧ xs.length ≤ 1000 ∧ (xs = [] → Raised C .non H E) ∧
      (xs ≠ [] → (∀ x ∈ xs, ∃ t, Arg H x t) ∧ (∀ x, firstBad L b (-1) xs = some x → Raised C x H E) ∧ (∀ ns, xs = ns.map V.int → okM L (-1) ns → (b = true → ns.head? = some 0) → good ns))
def spReach (b : Bool) (F : Nat → List Int → Int) (CC CM : Addr) : Sp := fun vs H Q E => ∃ (v w : V) (t : String), vs = [v, w] ∧ Arg H v t ∧ (isRange v 0 600 = false → Raised CC v H E) ∧
  (∀ n : Nat, v = .int n → n ≤ 600 → Moms n b CM w H E fun ns => ∀ H', Same H H' → Q (.int (F n ns)) H')
theorem near_on_le {ns : List Int} {t : Int} (h : (ns.filter fun m => decide (m ≤ t)) ≠ []) : nearOn ns t ≤ t := by
  have e : nearOn ns t = (ns.filter fun m => decide (m ≤ t)).getLast h := by
    unfold nearOn
    rw [List.getLast?_eq_getLast h]
    rfl
  rw [e]
  have q := (List.mem_filter.mp (List.getLast_mem h)).2
  exact of_decide_eq_true q
theorem head_mem {ns : List Int} (h : ns.head? = some 0) : (0 : Int) ∈ ns := List.mem_of_head? h
theorem filter_ne {ns : List Int} {t : Int} (h : ns.head? = some 0) (ht : 0 ≤ t) : (ns.filter fun m => decide (m ≤ t)) ≠ [] := ne_nil_of_mem (List.mem_filter.mpr ⟨head_mem h, decide_eq_true ht⟩)
theorem int_of_range {v : V} {lo hi : Int} (h : isRange v lo hi = true) : ∃ i, v = .int i ∧ lo ≤ i ∧ i ≤ hi := by
  cases v with
  | int i =>
    have h' : (decide (lo ≤ i) && decide (i ≤ hi)) = true := h
    rw [Bool.and_eq_true, decide_eq_true_eq, decide_eq_true_eq] at h'
    exact ⟨i, rfl, h'.1, h'.2⟩
  | _ => exact nomatch (show false = true from h)
theorem Raised.same {C : Addr} {v : V} {H H1 : Hp} {E : XK} (r : Raised C v H E) (s : Same H H1) : Raised C v H1 E := fun d H' s' e => r d H' (s.trans s') e
section
variable {w : World} {K : PySem.W.Frag} {mg : Str → Option Value} {base : Heap} {CC CM fL fM fN : Addr} {fdL fdM fdN : FuncData}
theorem ok_reach_on {f : Addr} {fd : FuncData} (B : Bt mg) (F : Df K mg "reach_on" sReachOn ["last", "moments"] f fd)
    (DL : Df K mg "check_last" sLast ["last"] fL fdL) (GL : FnOk theProg w K mg base (L2.CX theProg w) 3 fL fdL ["last"] (spLast CC))
    (DM : Df K mg "check_moments" sMoms ["last", "moments", "from_first"] fM fdM) (GM : FnOk theProg w K mg base (L2.CX theProg w) 3 fM fdM ["last", "moments", "from_first"] (spMoms CM))
    (DN : Df K mg "nearest_on" sNearOn ["moments", "t"] fN fdN) (GN : FnOk theProg w K mg base CX0 1 fN fdN ["moments", "t"] spNearOn) :
    FnOk theProg w K mg base (L2.CX theProg w) 4 f fd ["last", "moments"] (spReach true reachOn CC CM) := by
  refine F.F.okX scReachOn (fun vs H Q E h => ?_) (fun cdv A outer s H vs Q E hr h => ?_)
  · obtain ⟨v, z, t, rfl, _⟩ := h
    rfl
  · obtain ⟨v, z, t, rfl, ha, hbad, hgood⟩ := h
    refine ⟨_, pss_cons (ps_expr (pcall DL GL hr (passes_call (takes_of rfl rfl rfl rfl) (fun _ _ _ _ h => h)) (pa_cons (pv 0) pa_nil)))
      (pss_cons (ps_expr (pcall DM GM hr (passes_call (takes_of rfl rfl rfl rfl) (fun _ _ _ _ h => h)) (pa_cons (pv 0) (pa_cons (pv 1) (pa_cons pe_bl pa_nil)))))
      (pss_one (ps_ret (pe_callB (cr_max rfl) (by rfl) B.max (by decide +kernel) (pa_cons
        (pe_lc (own := [("t", 2)]) (g := gName 2) (tt := tYes) rfl scReachOn.nd (pi_range1 rfl B.range (pa_cons (pe_op op_add (pv 0) pe_int) pa_nil))
          (blkOk_by (own := [("t", 2)]) (N := ["last", "moments", "t"]) (sc := defScope sReachOn) (by decide +kernel))
          (fun _ _ _ _ _ => pg_name (i := 2) scReachOn.nd rfl (.inl rfl)) (fun _ _ _ _ _ => pts_nil)
          (fun _ _ _ _ _ => pe_callTy call_int1 (by rfl) B.int (by decide +kernel) (pa_cons (pe_op op_sub (pv 2) (pcall DN GN (hr.mono (by decide)) pass0 (pa_cons (pv 1) (pa_cons (pv 2) pa_nil)))) pa_nil))) pa_nil))))), ?_⟩
    refine ⟨v, rfl, v, t, rfl, ha, fun hv => ?_, hbad⟩
    obtain ⟨i, rfl, h0, h6⟩ := int_of_range hv
    obtain ⟨n, rfl⟩ : ∃ n : Nat, i = n := ⟨i.toNat, by omega⟩
    have hn : n ≤ 600 := by omega
    refine ⟨.int n, rfl, z, rfl, n, z, true, rfl, ?_⟩
    rcases hgood n rfl hn with ⟨t', ha', hs, r⟩ | ⟨ad, kd, xs, rfl, hx, hl, he, hg⟩
    · exact .inl ⟨t', ha', hs, r⟩
    · refine .inr ⟨ad, kd, xs, rfl, hx, he, fun hne => ⟨(hg hne).1, (hg hne).2.1, fun hb H1 s1 => ?_⟩⟩
      obtain ⟨ns, rfl, hok, hh⟩ := good_ns hb
      have hh' := hh rfl rfl hne
      have q := (hg hne).2.2 ns rfl hok (fun _ => hh')
      rw [List.length_map] at hl
      refine ⟨.int n, rfl, n, 1, rfl, rfl, n + 1, rfl, by omega, by omega, fun D nD => ?_⟩
      refine lc_range (lo := 0) (n := ((n : Int) + 1).toNat) (fun i H' => Same H1 H' ∧ H' D = some (.lst (((List.range i).map fun (t : Nat) => (t : Int) - nearOn ns t).map V.int))) ⟨same_upd nD, upd_same⟩ ?_ ?_
      · rintro i H2 hi ⟨s2, e2⟩
        have ez : (0 : Int) + (i : Int) = i := Int.zero_add _
        refine ⟨rfl, .int (0 + i), rfl, .ref ad, rfl, .int (0 + i), rfl, ad, kd, ns, 0 + i, rfl, s2 _ _ (s1 _ _ hx), hl, filter_ne hh' (by omega), fun H3 s3 => ?_⟩
        refine ⟨0 + i, _, rfl, rfl, .inl ⟨_, rfl, _, s3 _ _ e2, ?_, samePut (s2.trans s3) nD, ?_⟩⟩
        · rw [List.length_map, List.length_map, List.length_range]
          exact ltLine (show i ≤ 1000 by omega) (Nat.le_refl _)
        · rw [upd_same, ez, List.range_succ, List.map_append, List.map_append]
          rfl
      · rintro H2 ⟨s2, e2⟩
        have en : ((n : Int) + 1).toNat = n + 1 := by omega
        rw [en] at e2
        refine ⟨D, _, rfl, .inl (.inl e2), by rw [List.length_map, List.length_range]; omega, fun m hm hle => ?_⟩
        have e : reachOn n ns = m := by
          refine gmax_eq hm hle ?_
          obtain ⟨t, _, rfl⟩ := List.mem_map.mp hm
          have := near_on_le (filter_ne hh' (Int.natCast_nonneg t))
          omega
        rw [← e]
        exact q H2 (s1.trans s2)
theorem ok_reach_both {f : Addr} {fd : FuncData} (B : Bt mg) (F : Df K mg "reach_both" sReachBoth ["last", "moments"] f fd)
    (DL : Df K mg "check_last" sLast ["last"] fL fdL) (GL : FnOk theProg w K mg base (L2.CX theProg w) 3 fL fdL ["last"] (spLast CC))
    (DM : Df K mg "check_moments" sMoms ["last", "moments", "from_first"] fM fdM) (GM : FnOk theProg w K mg base (L2.CX theProg w) 3 fM fdM ["last", "moments", "from_first"] (spMoms CM))
    (DN : Df K mg "nearest_both" sNearBoth ["moments", "t"] fN fdN) (GN : FnOk theProg w K mg base CX0 1 fN fdN ["moments", "t"] spNearBoth) :
    FnOk theProg w K mg base (L2.CX theProg w) 4 f fd ["last", "moments"] (spReach false reachBoth CC CM) := by
  refine F.F.okX scReachBoth (fun vs H Q E h => ?_) (fun cdv A outer s H vs Q E hr h => ?_)
  · obtain ⟨v, z, t, rfl, _⟩ := h
    rfl
  · obtain ⟨v, z, t, rfl, ha, hbad, hgood⟩ := h
    refine ⟨_, pss_cons (ps_expr (pcall DL GL hr (passes_call (takes_of rfl rfl rfl rfl) (fun _ _ _ _ h => h)) (pa_cons (pv 0) pa_nil)))
      (pss_cons (ps_expr (pcall DM GM hr (passes_call (takes_of rfl rfl rfl rfl) (fun _ _ _ _ h => h)) (pa_cons (pv 0) (pa_cons (pv 1) (pa_cons pe_bl pa_nil)))))
      (pss_one (ps_ret (pe_callB (cr_max rfl) (by rfl) B.max (by decide +kernel) (pa_cons
        (pe_lc (own := [("t", 2)]) (g := gName 2) (tt := tYes) rfl scReachBoth.nd (pi_range1 rfl B.range (pa_cons (pe_op op_add (pv 0) pe_int) pa_nil))
          (blkOk_by (own := [("t", 2)]) (N := ["last", "moments", "t"]) (sc := defScope sReachBoth) (by decide +kernel))
          (fun _ _ _ _ _ => pg_name (i := 2) scReachBoth.nd rfl (.inl rfl)) (fun _ _ _ _ _ => pts_nil)
          (fun _ _ _ _ _ => pe_callTy call_int1 (by rfl) B.int (by decide +kernel) (pa_cons (pe_callB call_abs (by rfl) B.abs (by decide +kernel)
            (pa_cons (pe_op op_sub (pv 2) (pcall DN GN (hr.mono (by decide)) pass0 (pa_cons (pv 1) (pa_cons (pv 2) pa_nil)))) pa_nil)) pa_nil))) pa_nil))))), ?_⟩
    refine ⟨v, rfl, v, t, rfl, ha, fun hv => ?_, hbad⟩
    obtain ⟨i, rfl, h0, h6⟩ := int_of_range hv
    obtain ⟨n, rfl⟩ : ∃ n : Nat, i = n := ⟨i.toNat, by omega⟩
    have hn : n ≤ 600 := by omega
    refine ⟨.int n, rfl, z, rfl, n, z, false, rfl, ?_⟩
    rcases hgood n rfl hn with ⟨t', ha', hs, r⟩ | ⟨ad, kd, xs, rfl, hx, hl, he, hg⟩
    · exact .inl ⟨t', ha', hs, r⟩
    · refine .inr ⟨ad, kd, xs, rfl, hx, he, fun hne => ⟨(hg hne).1, (hg hne).2.1, fun hb H1 s1 => ?_⟩⟩
      obtain ⟨ns, rfl, hok, hh⟩ := good_ns hb
      have hne' : ns ≠ [] := fun z => hne (by rw [z]; rfl)
      have q := (hg hne).2.2 ns rfl hok (fun z => nomatch z)
      refine ⟨.int n, rfl, n, 1, rfl, rfl, n + 1, rfl, by omega, by omega, fun D nD => ?_⟩
      refine lc_range (lo := 0) (n := ((n : Int) + 1).toNat) (fun i H' => Same H1 H' ∧ H' D = some (.lst (((List.range i).map fun (t : Nat) => iabs ((t : Int) - nearBoth ns t)).map V.int))) ⟨same_upd nD, upd_same⟩ ?_ ?_
      · rintro i H2 hi ⟨s2, e2⟩
        have ez : (0 : Int) + (i : Int) = i := Int.zero_add _
        refine ⟨rfl, .int (0 + i), rfl, .ref ad, rfl, .int (0 + i), rfl, ad, kd, ns, 0 + i, rfl, s2 _ _ (s1 _ _ hx), hne', ?_⟩
        refine ⟨0 + i, _, rfl, rfl, _, rfl, .inl ⟨_, rfl, _, e2, ?_, samePut s2 nD, ?_⟩⟩
        · rw [List.length_map, List.length_map, List.length_range]
          exact ltLine (show i ≤ 1000 by omega) (Nat.le_refl _)
        · rw [upd_same, ez, List.range_succ, List.map_append, List.map_append]
          rfl
      · rintro H2 ⟨s2, e2⟩
        have en : ((n : Int) + 1).toNat = n + 1 := by omega
        rw [en] at e2
        refine ⟨D, _, rfl, .inl (.inl e2), by rw [List.length_map, List.length_range]; omega, fun m hm hle => ?_⟩
        have e : reachBoth n ns = m := by
          refine gmax_eq hm hle ?_
          obtain ⟨t, _, rfl⟩ := List.mem_map.mp hm
          exact iabs_nonneg _
        rw [← e]
        exact q H2 (s1.trans s2)
end
end K19

/-! ceiling_of, least_on, least_both, even_on, even_both -/
namespace K19
open PySem PySem.Spec PyProof.Rows L2
abbrev sCeil : Stmt := topS 17
abbrev sLeastOn : Stmt := topS 18
abbrev sLeastBoth : Stmt := topS 19
abbrev sEvenOn : Stmt := topS 20
abbrev sEvenBoth : Stmt := topS 21
theorem scCeil : FnScope ["one", "other"] ["one", "other"] (defScope sCeil) := ⟨rfl, rfl, rfl, by decide +kernel, rfl, by decide +kernel, by decide +kernel⟩
theorem scLeastOn : FnScope ["last", "many"] ["last", "many"] (defScope sLeastOn) := ⟨rfl, rfl, rfl, by decide +kernel, rfl, by decide +kernel, by decide +kernel⟩
theorem scLeastBoth : FnScope ["last", "many"] ["last", "many"] (defScope sLeastBoth) := ⟨rfl, rfl, rfl, by decide +kernel, rfl, by decide +kernel, by decide +kernel⟩
theorem scEvenOn : FnScope ["last", "many", "step"] ["last", "many"] (defScope sEvenOn) := ⟨rfl, rfl, rfl, by decide +kernel, rfl, by decide +kernel, by decide +kernel⟩
theorem scEvenBoth : FnScope ["last", "many", "reach", "moment"] ["last", "many"] (defScope sEvenBoth) := ⟨rfl, rfl, rfl, by decide +kernel, rfl, by decide +kernel, by decide +kernel⟩
/-! ### a range with a step: how many -/
theorem size_pos {a b c : Int} {l : Nat} (hc : 1 ≤ c) (hl : b = a + l + 1) : Builtin.Range.rangeSize a b c = (((l : Int) / c + 1 : Int)) := by
  unfold Builtin.Range.rangeSize
  rw [if_pos (by omega), if_pos (by omega), show b - a - 1 = (l : Int) by omega]
theorem rgc_pos {a b : Int} {c l : Nat} (hc : 1 ≤ c) (hc2 : c ≤ 10000) (ha : 0 ≤ a) (ha2 : a ≤ 10000) (hl : b = a + l + 1) (hl2 : l ≤ 10000) : RgC a b (c : Int) (l / c + 1) := by
  have e : Builtin.Range.rangeSize a b (c : Int) = ((l / c + 1 : Nat) : Int) := by
    rw [size_pos (l := l) (by omega) hl, Int.natCast_add, Int.natCast_ediv]
    rfl
  have hq : l / c ≤ l := Nat.div_le_self _ _
  refine ⟨by omega, by omega, ?_, e⟩
  unfold Builtin.Range.small
  rw [e]
  simp only [Builtin.Range.rangeFitsLong, Bool.and_eq_true, Bool.or_eq_true, decide_eq_true_eq, beq_iff_eq]
  rw [if_pos (show (c : Int) > 0 by omega)]
  generalize l / c = q at hq
  rw [Bool.and_eq_true, decide_eq_true_eq, decide_eq_true_eq]
  omega
/-- tuple(range(a, b, c)) -/
def stepsV (i c : Int) (n : Nat) : List V := (List.range n).map fun (k : Nat) => V.int (i + (k : Int) * c)
def tTup3 (ta : TA) : TE := fun σ H Q => ta σ H fun vs H1 => ∃ (i j c : Int) (n : Nat), vs = [.int i, .int j, .int c] ∧ RgC i j c n ∧ n ≤ 1000 ∧ ∀ q, H1 q = none → Q (.ref q) (upd H1 q (.tup (stepsV i c n)))
theorem vals_steps {i c : Int} {n : Nat} {acc : Array Value} (h : ItemsOf (fun k v => ∃ t, v = .int (i + k * c) t) acc n) : Vals (stepsV i c n) acc.toList := by
  have e : acc.toList.length = n := by
    rw [Array.length_toList]
    exact h.1
  unfold stepsV
  rw [← e]
  refine vals_of_get acc.toList _ fun j u hj => ?_
  obtain ⟨t, z⟩ := h.2 j u (by rw [← hj, Array.getElem?_toList])
  exact ⟨t, z⟩
section
variable {X : Cx} {a b c : Expr} {ta : TA}
theorem pe_tup3 {p p2 pos pos2 : Pos} (hc : X.calm = true) (mt : X.mg "tuple" = none) (mr : X.mg "range" = none) (ha : PA X [a, b, c] ta) (gt : Gl X "tuple" := by rfl) (gr : Gl X "range" := by rfl)
    (hs : starEach [a, b, c] X.env = (false, eval a X.env) :: starEach [b, c] X.env := by rfl) (hpl : (backTo pos2 (starEach [b, c] X.env)).any (·.1) = false := by rfl)
    (na : starEach [Expr.Call (.Name "range" p2) [a, b, c] [] pos2] X.env = (false, eval (.Call (.Name "range" p2) [a, b, c] [] pos2) X.env) :: starEach [] X.env := by rfl) :
    PE X (.Call (.Name "tuple" p) [.Call (.Name "range" p2) [a, b, c] [] pos2] [] pos) (tTup3 ta) := by
  refine ⟨fun pins s σ H Q I h => ?_⟩
  refine Call_ (ld_blt I gt mt boot_tuple (PyProof.Rows.callWith_type1 (args_cons ?_ na) na))
  refine Call_ (ld_blt I gr mr boot_range (PyProof.Rows.callWith_type1 (thn (ha.run pos2 pins s σ H _ I h) fun us s1 ⟨vs, H1, I1, r1, q1⟩ => ?_) hs hpl))
  obtain ⟨i, j, k, n, rfl, ⟨c0, c1, c2, c3⟩, hn, q⟩ := q1
  cases r1 with
  | cons r rr =>
    cases rr with
    | cons r' rr =>
      cases rr with
      | cons r'' rr =>
        cases rr
        obtain ⟨t, rfl⟩ := r
        obtain ⟨t', rfl⟩ := r'
        obtain ⟨t'', rfl⟩ := r''
        refine call_range_3 c0 (args_nil ?_) (.inl (PyProof.noPylong_small c1))
        have I2 : Inv X pins σ H1 { s1 with heap := s1.heap.push { cls := .type "range", data := .fields #[.int i t, .int j t', .int k t''] } } := I1.kept (t' := s1.toks) fun b o e => Heap.get?_push_of_some _ e
        refine call_tuple_range (n := n) (I1.ok.hd hc) (IsRange.new _ _ _ _ _ _ _) c2 c3 (by omega) fun h' tk acc hk hi => ?_
        have I3 : Inv X pins σ H1 { s1 with heap := h', toks := tk } := I2.kept hk
        refine ⟨.ref h'.objs.size, upd H1 h'.objs.size (.tup (stepsV i k n)), I3.laid (t' := tk) (fun b o e => Heap.get?_push_of_some _ e) (Nat.le_refl _) (show ObjOk X.prog X.w _ _ _ (.tup (stepsV i k n)) from ⟨?_, acc.toList, vals_steps hi, ?_⟩), rfl, q _ (I3.hok.fresh (Nat.le_refl _))⟩
        · unfold stepsV
          rw [List.length_map, List.length_range]
          exact leLine hn
        · rw [Array.toArray_toList]
          exact IsTup.new _ _
end
/-! ### the promises -/
def spCeil : Sp := fun vs H Q _ => ∃ a b : Int, vs = [.int a, .int b] ∧ CDivN (-a) b ∧ Q (.int (-((-a).fdiv b))) H
/-- what is asked of a last moment and of how many may be kept -/
def Two (CC : Addr) (vs : List V) (H : Hp) (E : XK) (good : Nat → Nat → Prop) : Prop := ∃ (v u : V) (t t' : String), vs = [v, u] ∧ Arg H v t ∧ Arg H u t' ∧ (isRange v 0 600 = false → Raised CC v H E) ∧
  (isRange v 0 600 = true → isMany u = false → Raised CC u H E) ∧ (isMany u = true → ∃ m : Nat, u = .int m ∧ m ≤ 1000) ∧ (∀ n m : Nat, v = .int n → u = .int m → n ≤ 600 → 1 ≤ m → m ≤ 1000 → good n m)
def spLeast (F : Nat → Nat → Int) (CC : Addr) : Sp := fun vs H Q E => Two CC vs H E fun n m => Q (.int (F n m)) H
def spEven (F : Nat → Nat → List Int) (CC : Addr) : Sp := fun vs H Q E => Two CC vs H E fun n m => ∀ (H' : Hp) (p : Addr), Same H H' → H p = none → H' p = some (.tup ((F n m).map V.int)) → Q (.ref p) H'
theorem nat_of_range {v : V} {hi : Nat} (h : isRange v 0 hi = true) : ∃ n : Nat, v = .int n ∧ n ≤ hi := by
  obtain ⟨i, rfl, h0, h6⟩ := int_of_range h
  exact ⟨i.toNat, by rw [Int.toNat_of_nonneg h0], by omega⟩
section
variable {w : World} {K : PySem.W.Frag} {mg : Str → Option Value} {base : Heap} {CC fL fM fC : Addr} {fdL fdM fdC : FuncData}
theorem ok_ceil {P : Program} {f : Addr} {fd : FuncData} (F : Df K mg "ceiling_of" sCeil ["one", "other"] f fd) : FnOk P w K mg base CX0 1 f fd ["one", "other"] spCeil := by
  refine F.F.ok scCeil (fun vs H Q E h => ?_) (fun cdv A outer s H vs Q E hr h => ?_)
  · obtain ⟨a, b, rfl, _⟩ := h
    rfl
  · obtain ⟨a, b, rfl, hd, q⟩ := h
    refine ⟨_, pss_one (ps_ret (pe_un un_neg (pe_op op_fdivN (pe_un un_neg (pv 0)) (pv 1)))), ?_⟩
    exact ⟨.int a, rfl, a, rfl, .int b, rfl, -a, b, rfl, rfl, hd, _, rfl, q⟩
theorem many_nat {u : V} (h : isMany u = true) (hm : isMany u = true → ∃ m : Nat, u = .int m ∧ m ≤ 1000) : ∃ m : Nat, u = .int m ∧ 1 ≤ m ∧ m ≤ 1000 := by
  obtain ⟨m, rfl, h2⟩ := hm h
  have h1 : (1 : Int) ≤ (m : Int) := of_decide_eq_true h
  exact ⟨m, rfl, by omega, h2⟩
theorem ok_least_on {f : Addr} {fd : FuncData} (F : Df K mg "least_on" sLeastOn ["last", "many"] f fd) (DL : Df K mg "check_last" sLast ["last"] fL fdL) (GL : FnOk theProg w K mg base (L2.CX theProg w) 3 fL fdL ["last"] (spLast CC))
    (DM : Df K mg "check_many" sMany ["many"] fM fdM) (GM : FnOk theProg w K mg base (L2.CX theProg w) 3 fM fdM ["many"] (spMany CC)) (DC : Df K mg "ceiling_of" sCeil ["one", "other"] fC fdC) (GC : FnOk theProg w K mg base CX0 1 fC fdC ["one", "other"] spCeil) :
    FnOk theProg w K mg base (L2.CX theProg w) 4 f fd ["last", "many"] (spLeast leastOn CC) := by
  refine F.F.okX scLeastOn (fun vs H Q E h => ?_) (fun cdv A outer s H vs Q E hr h => ?_)
  · obtain ⟨v, u, t, t', rfl, _⟩ := h
    rfl
  · obtain ⟨v, u, t, t', rfl, ha, ha', b1, b2, hm, hg⟩ := h
    refine ⟨_, pss_cons (ps_expr (pcall DL GL hr (passes_call (takes_of rfl rfl rfl rfl) (fun _ _ _ _ h => h)) (pa_cons (pv 0) pa_nil)))
      (pss_cons (ps_expr (pcall DM GM hr (passes_call (takes_of rfl rfl rfl rfl) (fun _ _ _ _ h => h)) (pa_cons (pv 1) pa_nil)))
      (pss_one (ps_ret (pe_op op_sub (pcall DC GC (hr.mono (by decide)) pass0 (pa_cons (pe_op op_add (pv 0) pe_int) (pa_cons (pv 1) pa_nil))) pe_int)))), ?_⟩
    refine ⟨v, rfl, v, t, rfl, ha, fun hv => ?_, b1⟩
    refine ⟨u, rfl, u, t', rfl, ha', fun hu => ?_, b2 hv⟩
    obtain ⟨n, rfl, hn⟩ := nat_of_range (hi := 600) hv
    obtain ⟨m, rfl, h1, h2⟩ := many_nat hu hm
    refine ⟨.int n, rfl, n, 1, rfl, rfl, .int m, rfl, (n : Int) + 1, m, rfl, ⟨by omega, by omega⟩, _, 1, rfl, rfl, ?_⟩
    have q : Q (.int (leastOn n m)) H := hg n m rfl rfl hn h1 h2
    rw [← raw_on h1] at q
    exact q
theorem ok_least_both {f : Addr} {fd : FuncData} (B : Bt mg) (F : Df K mg "least_both" sLeastBoth ["last", "many"] f fd) (DL : Df K mg "check_last" sLast ["last"] fL fdL) (GL : FnOk theProg w K mg base (L2.CX theProg w) 3 fL fdL ["last"] (spLast CC))
    (DM : Df K mg "check_many" sMany ["many"] fM fdM) (GM : FnOk theProg w K mg base (L2.CX theProg w) 3 fM fdM ["many"] (spMany CC)) (DC : Df K mg "ceiling_of" sCeil ["one", "other"] fC fdC) (GC : FnOk theProg w K mg base CX0 1 fC fdC ["one", "other"] spCeil) :
    FnOk theProg w K mg base (L2.CX theProg w) 4 f fd ["last", "many"] (spLeast leastBoth CC) := by
  refine F.F.okX scLeastBoth (fun vs H Q E h => ?_) (fun cdv A outer s H vs Q E hr h => ?_)
  · obtain ⟨v, u, t, t', rfl, _⟩ := h
    rfl
  · obtain ⟨v, u, t, t', rfl, ha, ha', b1, b2, hm, hg⟩ := h
    refine ⟨_, pss_cons (ps_expr (pcall DL GL hr (passes_call (takes_of rfl rfl rfl rfl) (fun _ _ _ _ h => h)) (pa_cons (pv 0) pa_nil)))
      (pss_cons (ps_expr (pcall DM GM hr (passes_call (takes_of rfl rfl rfl rfl) (fun _ _ _ _ h => h)) (pa_cons (pv 1) pa_nil)))
      (pss_one (ps_ret (pe_callB (call_max2 rfl) (by rfl) B.max (by decide +kernel) (pa_cons pe_int (pa_cons (pe_callTy call_int1 (by rfl) B.int (by decide +kernel)
        (pa_cons (pcall DC GC (hr.mono (by decide)) pass0 (pa_cons (pe_op op_sub (pe_op op_add (pv 0) pe_int) (pv 1)) (pa_cons (pe_op op_mul pe_int (pv 1)) pa_nil))) pa_nil)) pa_nil)))))), ?_⟩
    refine ⟨v, rfl, v, t, rfl, ha, fun hv => ?_, b1⟩
    refine ⟨u, rfl, u, t', rfl, ha', fun hu => ?_, b2 hv⟩
    obtain ⟨n, rfl, hn⟩ := nat_of_range (hi := 600) hv
    obtain ⟨m, rfl, h1, h2⟩ := many_nat hu hm
    refine ⟨.int n, rfl, n, 1, rfl, rfl, .int m, rfl, (n : Int) + 1, m, rfl, rfl, .int m, rfl, 2, m, rfl, rfl, .inl ⟨by decide, by decide⟩, (n : Int) + 1 - m, 2 * m, rfl, ⟨by omega, by omega⟩, .inl ⟨_, rfl, 0, _, rfl, ?_⟩⟩
    have q : Q (.int (leastBoth n m)) H := hg n m rfl rfl hn h1 h2
    rw [← raw_both h1] at q
    exact q
end
end K19

/-! even_on, even_both -/
namespace K19
open PySem PySem.Spec PyProof.Rows L2
theorem steps_even {n m : Nat} : stepsV 0 (stepOf n m : Int) (n / stepOf n m + 1) = (evenOn n m).map V.int := by
  unfold stepsV evenOn
  rw [List.map_map]
  refine List.map_congr_left fun k _ => ?_
  show V.int (0 + (k : Int) * (stepOf n m : Int)) = V.int ((stepOf n m * k : Nat) : Int)
  rw [Int.zero_add, Int.natCast_mul, Int.mul_comm]
theorem div_le_600 {n c : Nat} (h : n ≤ 600) : n / c + 1 ≤ 1000 := by
  have := Nat.div_le_self n c
  omega
theorem even_cast {n m i : Nat} : ((dist n m : Int) + (i : Int) * (2 * (dist n m : Int) + 1)) = ((dist n m + (2 * dist n m + 1) * i : Nat) : Int) := by
  rw [Int.natCast_add, Int.natCast_mul, Int.natCast_add, Int.natCast_mul, Int.mul_comm (i : Int)]
  rfl
section
variable {w : World} {K : PySem.W.Frag} {mg : Str → Option Value} {base : Heap} {CC fL : Addr} {fdL : FuncData}
theorem ok_even_on {f : Addr} {fd : FuncData} (B : Bt mg) (F : Df K mg "even_on" sEvenOn ["last", "many"] f fd) (DL : Df K mg "least_on" sLeastOn ["last", "many"] fL fdL)
    (GL : FnOk theProg w K mg base (L2.CX theProg w) 4 fL fdL ["last", "many"] (spLeast leastOn CC)) : FnOk theProg w K mg base (L2.CX theProg w) 5 f fd ["last", "many"] (spEven evenOn CC) := by
  refine F.F.okX scEvenOn (fun vs H Q E h => ?_) (fun cdv A outer s H vs Q E hr h => ?_)
  · obtain ⟨v, u, t, t', rfl, _⟩ := h
    rfl
  · obtain ⟨v, u, t, t', rfl, ha, ha', b1, b2, hm, hg⟩ := h
    refine ⟨_, pss_cons (ps_set (i := 2) scEvenOn.nd rfl (.inl rfl) (pe_op op_add (pcall DL GL hr (passes_call (takes_of rfl rfl rfl rfl) (fun _ _ _ _ h => h)) (pa_cons (pv 0) (pa_cons (pv 1) pa_nil))) pe_int))
      (pss_one (ps_ret (pe_tup3 rfl B.tuple B.range (pa_cons pe_int (pa_cons (pe_op op_add (pv 0) pe_int) (pa_cons (pv 2) pa_nil)))))), ?_⟩
    refine ⟨v, rfl, u, rfl, v, u, t, t', rfl, ha, ha', b1, b2, hm, fun n m e1 e2 h1 h2 h3 => ?_⟩
    subst e1
    subst e2
    have q : ∀ (H' : Hp) (p : Addr), Same H H' → H p = none → H' p = some (.tup ((evenOn n m).map V.int)) → Q (.ref p) H' := hg n m rfl rfl h1 h2 h3
    have sp := stepOf_pos (last := n) h2
    have sl := stepOf_le (last := n) h2
    refine ⟨_, 1, rfl, rfl, .int n, rfl, n, 1, rfl, rfl, .int (leastOn n m + 1), rfl, 0, (n : Int) + 1, leastOn n m + 1, n / stepOf n m + 1, rfl, ?_, div_le_600 h1, fun p np => ?_⟩
    · have e : leastOn n m + 1 = (stepOf n m : Int) := by
        unfold leastOn
        omega
      rw [e]
      exact rgc_pos sp (by omega) (by decide) (by decide) (by omega) (by omega)
    · have e : leastOn n m + 1 = (stepOf n m : Int) := by
        unfold leastOn
        omega
      refine q _ p (same_upd np) np ?_
      rw [upd_same, e, steps_even]
theorem ok_even_both {f : Addr} {fd : FuncData} (B : Bt mg) (F : Df K mg "even_both" sEvenBoth ["last", "many"] f fd) (DL : Df K mg "least_both" sLeastBoth ["last", "many"] fL fdL)
    (GL : FnOk theProg w K mg base (L2.CX theProg w) 4 fL fdL ["last", "many"] (spLeast leastBoth CC)) : FnOk theProg w K mg base (L2.CX theProg w) 5 f fd ["last", "many"] (spEven evenBoth CC) := by
  refine F.F.okX scEvenBoth (fun vs H Q E h => ?_) (fun cdv A outer s H vs Q E hr h => ?_)
  · obtain ⟨v, u, t, t', rfl, _⟩ := h
    rfl
  · obtain ⟨v, u, t, t', rfl, ha, ha', b1, b2, hm, hg⟩ := h
    refine ⟨_, pss_cons (ps_set (i := 2) scEvenBoth.nd rfl (.inl rfl) (pcall DL GL hr (passes_call (takes_of rfl rfl rfl rfl) (fun _ _ _ _ h => h)) (pa_cons (pv 0) (pa_cons (pv 1) pa_nil))))
      (pss_one (ps_ret (pe_callTy call_tuple_of (by rfl) B.tuple (by decide +kernel) (pa_cons
        (pe_lc (own := [("moment", 3)]) (g := gName 3) (tt := tYes) rfl scEvenBoth.nd (pi_range3 rfl B.range (pa_cons (pv 2) (pa_cons (pe_op op_add (pe_op op_add (pv 0) (pv 2)) pe_int) (pa_cons (pe_op op_add (pe_op op_mul pe_int (pv 2)) pe_int) pa_nil))))
          (blkOk_by (own := [("moment", 3)]) (N := ["last", "many", "reach", "moment"]) (sc := defScope sEvenBoth) (by decide +kernel))
          (fun _ _ _ _ _ => pg_name (i := 3) scEvenBoth.nd rfl (.inl rfl)) (fun _ _ _ _ _ => pts_nil)
          (fun _ _ _ _ _ => pe_callB (call_min2 rfl) (by rfl) B.min (by decide +kernel) (pa_cons (pe_callTy call_int1 (by rfl) B.int (by decide +kernel) (pa_cons (pv 3) pa_nil))
            (pa_cons (pe_callTy call_int1 (by rfl) B.int (by decide +kernel) (pa_cons (pv 0) pa_nil)) pa_nil)))) pa_nil)))), ?_⟩
    refine ⟨v, rfl, u, rfl, v, u, t, t', rfl, ha, ha', b1, b2, hm, fun n m e1 e2 h1 h2 h3 => ?_⟩
    subst e1
    subst e2
    have q : ∀ (H' : Hp) (p : Addr), Same H H' → H p = none → H' p = some (.tup ((evenBoth n m).map V.int)) → Q (.ref p) H' := hg n m rfl rfl h1 h2 h3
    have dl := dist_le (last := n) h2
    refine ⟨.int (leastBoth n m), rfl, .int n, rfl, .int (leastBoth n m), rfl, n, leastBoth n m, rfl, rfl, _, 1, rfl, rfl, .int (leastBoth n m), rfl, 2, leastBoth n m, rfl, rfl, .inl ⟨by decide, by decide⟩, _, 1, rfl, rfl,
      leastBoth n m, (n : Int) + leastBoth n m + 1, 2 * leastBoth n m + 1, n / (2 * dist n m + 1) + 1, rfl, ?_, fun D nD => ?_⟩
    · unfold leastBoth
      have e : 2 * (dist n m : Int) + 1 = ((2 * dist n m + 1 : Nat) : Int) := by omega
      rw [e]
      exact rgc_pos (by omega) (by omega) (Int.natCast_nonneg _) (by omega) (by omega) (by omega)
    · refine lc_it walk_rangeC (fun i H' => Same H H' ∧ H' D = some (.lst (((List.range i).map (evenAt n m)).map V.int))) ⟨same_upd nD, upd_same⟩ (fun _ _ _ _ => True.intro) ?_ ?_
      · rintro i x H2 H3 hi ⟨s2, e2⟩ ⟨rfl, rfl⟩
        refine ⟨rfl, _, rfl, .inl ⟨_, rfl, .int n, rfl, .inl ⟨_, rfl, _, n, rfl, ?_⟩⟩⟩
        refine ⟨_, e2, ?_, samePut s2 nD, ?_⟩
        · have := div_le_600 (c := 2 * dist n m + 1) h1
          rw [List.length_map, List.length_map, List.length_range]
          exact ltLine (show i ≤ 1000 by omega) (Nat.le_refl _)
        · rw [upd_same, List.range_succ, List.map_append, List.map_append]
          show some (HO.lst (_ ++ [V.int (dn (leastBoth n m + (i : Int) * (2 * leastBoth n m + 1)) n)])) = some (HO.lst (_ ++ [V.int (evenAt n m i)]))
          unfold leastBoth evenAt
          rw [even_cast]
      · rintro H2 ⟨s2, e2⟩
        refine ⟨D, _, rfl, .inl ⟨.inl (.inl e2), fun p np => ?_⟩⟩
        exact q _ p (sameU s2 np) (Same.free s2 np) upd_same
end
end K19

/-! _law_pool, _law_take, _law_one -/
namespace K19
open PySem PySem.Spec PyProof.Rows L2
abbrev sPool : Stmt := topS 23
abbrev sTake : Stmt := topS 24
abbrev sOne : Stmt := topS 25
theorem scPool : FnScope ["_law_script", "_law_k", "_law_cell", "_law_big", "_law_mixed"] ["_law_script", "_law_k"] (defScope sPool) := ⟨rfl, rfl, rfl, by decide +kernel, rfl, by decide +kernel, by decide +kernel⟩
theorem scTake : FnScope ["_law_source", "_law_top", "_law_drawn"] ["_law_source", "_law_top"] (defScope sTake) := ⟨rfl, rfl, rfl, by decide +kernel, rfl, by decide +kernel, by decide +kernel⟩
theorem scOne : FnScope ["_law_source", "_law_things"] ["_law_source", "_law_things"] (defScope sOne) := ⟨rfl, rfl, rfl, by decide +kernel, rfl, by decide +kernel, by decide +kernel⟩
/-- at a the pool of a script: two numbers -/
def Src (H : Hp) (a : Addr) : Prop := ∃ x y : Int, H a = some (.lst [.int x, .int y]) ∧ 0 ≤ x ∧ 0 ≤ y ∧ y < 2147483647
def spPool (K : PySem.W.Frag) : Sp := fun vs H Q _ => ∃ (a : Addr) (ns : List Int) (k : Nat), vs = [.ref a, .int k] ∧ SqL K H a (ns.map V.int) ∧ ns.length ≤ 63 ∧ k ≤ 63 ∧ ∀ (p : Addr) (x y : Int), H p = none → 0 ≤ x → 0 ≤ y → y < 2147483647 → Q (.ref p) (upd H p (.lst [.int x, .int y]))
/-- nothing but the object at a changes -/
def But (a : Addr) (H H' : Hp) : Prop := ∀ b, b ≠ a → H' b = H b
theorem But.upd {a : Addr} {H : Hp} {o : HO} : But a H (upd H a o) := fun _ h => upd_ne h
theorem But.trans {a : Addr} {H H1 H2 : Hp} (x : But a H H1) (y : But a H1 H2) : But a H H2 := fun b h => (y b h).trans (x b h)
def spTake : Sp := fun vs H Q _ => ∃ (a : Addr) (top : Nat), vs = [.ref a, .int top] ∧ Src H a ∧ 1 ≤ top ∧ top ≤ 1000 ∧ ∀ (d : Nat) (H' : Hp), d < top → Src H' a → But a H H' → Q (.int d) H'
def spOne : Sp := fun vs H Q _ => ∃ (a b : Addr) (xs : List V), vs = [.ref a, .ref b] ∧ Src H a ∧ H b = some (.lst xs) ∧ b ≠ a ∧ xs ≠ [] ∧ xs.length ≤ 1000 ∧ ∀ (i : Nat) (v : V) (H' : Hp), xs[i]? = some v → Src H' a → But a H H' → Q v H'
theorem mod_in {a m : Int} (hm : 0 < m) : 0 ≤ a.fmod m ∧ a.fmod m < m := by
  rw [Int.fmod_eq_emod_of_nonneg _ (Int.le_of_lt hm)]
  exact ⟨Int.emod_nonneg _ (by omega), Int.emod_lt_of_pos _ hm⟩
theorem div_nonneg {a m : Int} (ha : 0 ≤ a) (hm : 0 < m) : 0 ≤ a.fdiv m := by
  rw [Int.fdiv_eq_ediv_of_nonneg _ (Int.le_of_lt hm)]
  exact Int.ediv_nonneg ha (Int.le_of_lt hm)
theorem nat_mod {a : Int} {m : Nat} (hm : 1 ≤ m) : ∃ d : Nat, a.fmod (m : Int) = (d : Int) ∧ d < m := by
  obtain ⟨h1, h2⟩ := mod_in (a := a) (show (0 : Int) < (m : Int) by omega)
  exact ⟨(a.fmod (m : Int)).toNat, (Int.toNat_of_nonneg h1).symm, by omega⟩
theorem nz1 : (2147483629 : Int) ≠ 0 := by decide
theorem nz2 : (2147483647 : Int) ≠ 0 := by decide
theorem b01 (b : Bool) : -(2 ^ 64) < (if b = true then (1 : Int) else 0) ∧ (if b = true then (1 : Int) else 0) < 2 ^ 64 := by cases b <;> decide
section
variable {P : Program} {w : World} {K : PySem.W.Frag} {mg : Str → Option Value} {base : Heap} {fT : Addr} {fdT : FuncData}
theorem ok_pool {f : Addr} {fd : FuncData} (B : Bt mg) (F : Df K mg "_law_pool" sPool ["_law_script", "_law_k"] f fd) : FnOk P w K mg base CX0 1 f fd ["_law_script", "_law_k"] (spPool K) := by
  refine F.F.ok scPool (fun vs H Q E h => ?_) (fun cdv A outer s H vs Q E hr h => ?_)
  · obtain ⟨a, ns, k, rfl, _⟩ := h
    rfl
  · obtain ⟨a, ns, k, rfl, hS, hl, hk, q⟩ := h
    refine ⟨_, pss_cons (ps_set (i := 2) scPool.nd rfl (.inl rfl) pe_int)
      (pss_cons (ps_if (pt_cmpR op_lt (pv 1) (pe_callB call_len_seq (by rfl) B.len PySem.boot_len (pa_cons (pv 0) pa_nil)) (nomark _)) (pss_one (ps_set (i := 2) scPool.nd rfl (.inl rfl) (pe_ix ix_list (pv 0) (pv 1) (fun _ _ => rfl)))) pss_nil)
      (pss_cons (ps_set (i := 3) scPool.nd rfl (.inl rfl) (pe_callB (call_max2 rfl) (by rfl) B.max (by decide +kernel) (pa_cons (pe_callTy call_int1 (by rfl) B.int (by decide +kernel) (pa_cons (pv 2) pa_nil))
        (pa_cons (pe_callTy call_int1 (by rfl) B.int (by decide +kernel) (pa_cons (pe_op op_sub (pe_un un_neg pe_int) (pv 2)) pa_nil)) pa_nil))))
      (pss_cons (ps_set (i := 4) scPool.nd rfl (.inl rfl) (pe_op op_modN (pe_callTy call_int1 (by rfl) B.int (by decide +kernel) (pa_cons (pe_op op_mul (pe_op op_add (pe_op op_add (pe_op op_add
        (pe_op op_modN (pe_callTy call_int1 (by rfl) B.int (by decide +kernel) (pa_cons (pv 3) pa_nil)) pe_int) (pe_op op_mul (pe_op op_mul pe_int (pv 1)) (pv 1))) (pe_op op_mul pe_int (pv 1))) pe_int) pe_int) pa_nil)) pe_int))
      (pss_one (ps_ret (pe_lst (pa_cons (pe_op op_mul (pv 3) (pe_callTy call_int1 (by rfl) B.int (by decide +kernel) (pa_cons (pe_cmpR op_ge (pv 3) (pe_op op_pow pe_int pe_int) (nomark _)) pa_nil))) (pa_cons (pv 4) pa_nil)))))))), ?_⟩
    refine ⟨.int k, rfl, .ref a, rfl, a, _, rfl, .inl hS, _, _, rfl, rfl, _, rfl, ?_⟩
    have fin : ∀ c : Int, 0 ≤ up c (-1 - c) * (if decide ((10 : Int) ^ (18 : Int).toNat ≤ up c (-1 - c)) = true then 1 else 0) := fun c => by
      have h0 : 0 ≤ up c (-1 - c) := by
        unfold up
        split <;> omega
      split
      · rw [Int.mul_one]
        exact h0
      · rw [Int.mul_zero]
        exact Int.le_refl _
    have small : ∀ b : Bool, CMul (up 0 0) (if b = true then 1 else 0) := fun b => .inl ⟨by decide, by decide⟩
    have hk2 : (7919 : Int) * k < 2 ^ 64 := by omega
    refine ite_bool (fun hc => ?_) (fun hc => ?_)
    · have hlt : k < ns.length := by
        have := of_decide_eq_true hc
        rw [List.length_map] at this
        omega
      refine ⟨.ref a, rfl, .int k, rfl, a, _, k, .int ns[k], rfl, rfl, hS, atI_nat (by rw [List.getElem?_map, List.getElem?_eq_getElem hlt]; rfl), ?_⟩
      refine ⟨.int ns[k], rfl, .inl ⟨_, rfl, 1, rfl, .int ns[k], rfl, -1, ns[k], rfl, rfl, .inl ⟨_, rfl, _, _, rfl, ?_⟩⟩⟩
      refine ⟨_, rfl, .inl ⟨_, rfl, _, _, rfl, rfl, nz1, .int k, rfl, 7919, k, rfl, rfl, .inl ⟨by decide, by decide⟩, .int k, rfl, _, k, rfl, rfl, .inr ⟨by omega, by omega⟩, _, _, rfl, rfl, .int k, rfl, 31, k, rfl, rfl, .inl ⟨by decide, by decide⟩,
        _, _, rfl, rfl, _, _, rfl, rfl, _, _, rfl, rfl, .inr ⟨by decide, by decide⟩, .inl ⟨_, rfl, _, _, rfl, rfl, nz2, ?_⟩⟩⟩
      refine ⟨_, rfl, _, rfl, 10, 18, rfl, rfl, ⟨by decide, by decide, by decide⟩, _, _, rfl, rfl, .inr ⟨_, rfl, _, _, rfl, rfl, .inr (b01 _), _, rfl, by show 2 ≤ sizeLine; decide, fun p np => q p _ _ np (fin _) (mod_in (by decide)).1 (mod_in (by decide)).2⟩⟩
    · refine ⟨.int 0, rfl, .inl ⟨_, rfl, 1, rfl, .int 0, rfl, -1, 0, rfl, rfl, .inl ⟨_, rfl, _, _, rfl, ?_⟩⟩⟩
      refine ⟨_, rfl, .inl ⟨_, rfl, _, _, rfl, rfl, nz1, .int k, rfl, 7919, k, rfl, rfl, .inl ⟨by decide, by decide⟩, .int k, rfl, _, k, rfl, rfl, .inr ⟨by omega, by omega⟩, _, _, rfl, rfl, .int k, rfl, 31, k, rfl, rfl, .inl ⟨by decide, by decide⟩,
        _, _, rfl, rfl, _, _, rfl, rfl, _, _, rfl, rfl, .inr ⟨by decide, by decide⟩, .inl ⟨_, rfl, _, _, rfl, rfl, nz2, ?_⟩⟩⟩
      refine ⟨_, rfl, _, rfl, 10, 18, rfl, rfl, ⟨by decide, by decide, by decide⟩, _, _, rfl, rfl, .inr ⟨_, rfl, _, _, rfl, rfl, .inr (b01 _), _, rfl, by show 2 ≤ sizeLine; decide, fun p np => q p _ _ np (fin _) (mod_in (by decide)).1 (mod_in (by decide)).2⟩⟩
theorem ok_take {f : Addr} {fd : FuncData} (B : Bt mg) (F : Df K mg "_law_take" sTake ["_law_source", "_law_top"] f fd) : FnOk P w K mg base CX0 1 f fd ["_law_source", "_law_top"] spTake := by
  refine F.F.ok scTake (fun vs H Q E h => ?_) (fun cdv A outer s H vs Q E hr h => ?_)
  · obtain ⟨a, top, rfl, _⟩ := h
    rfl
  · obtain ⟨a, top, rfl, ⟨x, y, ha, hx, hy, hy2⟩, h1, h2, q⟩ := h
    refine ⟨_, pss_cons (ps_if (pt_cmpR op_gt (pe_ix ix_list (pv 0) pe_int (fun _ _ => rfl)) pe_int (nomark _))
        (pss_cons (ps_set (i := 2) scTake.nd rfl (.inl rfl) (pe_op op_modN (pe_callTy call_int1 (by rfl) B.int (by decide +kernel) (pa_cons (pe_ix ix_list (pv 0) pe_int (fun _ _ => rfl)) pa_nil)) (pv 1)))
        (pss_cons (ps_asg (pe_op op_fdivN (pe_ix ix_list (pv 0) pe_int (fun _ _ => rfl)) (pv 1)) (pg_sub (pv 0) pe_int set_list))
        (pss_one (ps_ret (pv 2))))) pss_nil)
      (pss_cons (ps_asg (pe_op op_modN (pe_callTy call_int1 (by rfl) B.int (by decide +kernel) (pa_cons (pe_op op_add (pe_op op_mul (pe_ix ix_list (pv 0) pe_int (fun _ _ => rfl)) pe_int) pe_int) pa_nil)) pe_int) (pg_sub (pv 0) pe_int set_list))
      (pss_one (ps_ret (pe_op op_modN (pe_callTy call_int1 (by rfl) B.int (by decide +kernel) (pa_cons (pe_op op_fdivN (pe_op op_modN (pe_callTy call_int1 (by rfl) B.int (by decide +kernel)
        (pa_cons (pe_op op_mul (pe_ix ix_list (pv 0) pe_int (fun _ _ => rfl)) (pe_ix ix_list (pv 0) pe_int (fun _ _ => rfl))) pa_nil)) pe_int) pe_int) pa_nil)) (pv 1))))), ?_⟩
    have hL : SqL K H a [.int x, .int y] := .inl (.inl ha)
    have a0 : atI [V.int x, V.int y] 0 = some (.int x) := atI_nat (j := 0) rfl
    have a1 : ∀ x : Int, ∀ y : Int, atI [V.int x, V.int y] 1 = some (.int y) := fun x y => atI_nat (j := 1) rfl
    refine ⟨.ref a, rfl, a, _, 0, .int x, rfl, rfl, hL, a0, x, 0, rfl, rfl, _, rfl, ite_bool (fun hc => ?_) (fun hc => ?_)⟩
    · obtain ⟨d, ed, hd⟩ := nat_mod (a := x) h1
      refine ⟨.ref a, rfl, a, _, 0, .int x, rfl, rfl, hL, a0, .inl ⟨x, rfl, .int top, rfl, x, top, rfl, rfl, by omega, ?_⟩⟩
      refine ⟨.ref a, rfl, a, _, 0, .int x, rfl, rfl, hL, a0, .int top, rfl, x, top, rfl, rfl, ⟨by omega, by omega⟩, ?_⟩
      refine ⟨.ref a, rfl, a, _, 0, 0, rfl, rfl, ha, rfl, _, rfl, ?_⟩
      have z := q d (upd H a (.lst [.int (x.fdiv top), .int y])) hd ⟨_, y, upd_same, div_nonneg hx (by omega), hy, hy2⟩ But.upd
      rw [← ed] at z
      exact z
    · refine ⟨.ref a, rfl, a, _, 1, .int y, rfl, rfl, hL, a1 x y, y, 39373, rfl, rfl, .inr ⟨by decide, by decide⟩, _, 7, rfl, rfl, .inl ⟨_, rfl, _, 2147483647, rfl, rfl, nz2, ?_⟩⟩
      refine ⟨.ref a, rfl, a, _, 1, 1, rfl, rfl, ha, rfl, ?_⟩
      obtain ⟨y0, y1⟩ := mod_in (a := y * 39373 + 7) (show (0 : Int) < 2147483647 by decide)
      have hL2 : SqL K (upd H a (.lst [.int x, .int ((y * 39373 + 7).fmod 2147483647)])) a [.int x, .int ((y * 39373 + 7).fmod 2147483647)] := .inl (.inl upd_same)
      refine ⟨.ref a, rfl, a, _, 1, _, rfl, rfl, hL2, a1 _ _, .ref a, rfl, a, _, 1, _, rfl, rfl, hL2, a1 _ _, _, _, rfl, rfl, .inl ⟨by omega, by omega⟩, .inl ⟨_, rfl, _, 2147483629, rfl, rfl, nz1, _, 32, rfl, rfl, ⟨by decide, by decide⟩, .inl ⟨_, rfl, .int top, rfl, _, top, rfl, rfl, by omega, ?_⟩⟩⟩
      obtain ⟨d, ed, hd⟩ := nat_mod (a := ((((y * 39373 + 7).fmod 2147483647) * ((y * 39373 + 7).fmod 2147483647)).fmod 2147483629).fdiv 32) h1
      have z := q d (upd H a (.lst [.int x, .int ((y * 39373 + 7).fmod 2147483647)])) hd ⟨_, _, upd_same, hx, y0, y1⟩ But.upd
      rw [← ed] at z
      exact z
theorem ok_one {f : Addr} {fd : FuncData} (B : Bt mg) (F : Df K mg "_law_one" sOne ["_law_source", "_law_things"] f fd) (DT : Df K mg "_law_take" sTake ["_law_source", "_law_top"] fT fdT) (GT : FnOk P w K mg base CX0 1 fT fdT ["_law_source", "_law_top"] spTake) :
    FnOk P w K mg base CX0 2 f fd ["_law_source", "_law_things"] spOne := by
  refine F.F.ok scOne (fun vs H Q E h => ?_) (fun cdv A outer s H vs Q E hr h => ?_)
  · obtain ⟨a, b, xs, rfl, _⟩ := h
    rfl
  · obtain ⟨a, b, xs, rfl, hs, hb, hne, hx, hl, q⟩ := h
    refine ⟨_, pss_one (ps_ret (pe_ix ix_list (pv 1) (pcall DT GT hr pass0 (pa_cons (pv 0) (pa_cons (pe_callB call_len_seq (by rfl) B.len PySem.boot_len (pa_cons (pv 1) pa_nil)) pa_nil))) (fun _ _ => rfl))), ?_⟩
    have hp := List.length_pos_iff.mpr hx
    refine ⟨.ref b, rfl, .ref a, rfl, .ref b, rfl, b, xs, rfl, .inl (.inl (.inl hb)), a, xs.length, rfl, hs, hp, hl, fun d H1 hd hs1 hb1 => ?_⟩
    have e : xs[d]? = some xs[d] := List.getElem?_eq_getElem hd
    exact ⟨b, xs, d, xs[d], rfl, rfl, .inl (.inl ((hb1 b hne).trans hb)), atI_nat e, q d _ H1 e hs1 hb1⟩
end
end K19

/-! _law_far -/
namespace K19
open PySem PySem.Spec PyProof.Rows L2
abbrev sFar : Stmt := topS 26
abbrev nFar : List Str := ["_law_last", "_law_some", "_law_both", "_law_most", "_law_t", "_law_steps", "_law_one_here", "_law_step"]
theorem scFar : FnScope nFar ["_law_last", "_law_some", "_law_both"] (defScope sFar) := ⟨rfl, rfl, rfl, by decide +kernel, rfl, by decide +kernel, by decide +kernel⟩
def spFar : Sp := fun vs H Q _ => ∃ (n : Nat) (ad : Addr) (kd : Bool) (ns : List Int) (b : Bool), vs = [.int n, .ref ad, .bl b] ∧ H ad = some (Tk kd (ns.map V.int)) ∧ ns.length ≤ 1000 ∧ n ≤ 600 ∧ ns ≠ [] ∧ (b = false → ns.head? = some 0) ∧
  ∀ H', Same H H' → Q (.int (far n ns b)) H'
section
variable {P : Program} {w : World} {K : PySem.W.Frag} {mg : Str → Option Value} {base : Heap}
theorem ok_far {f : Addr} {fd : FuncData} (B : Bt mg) (F : Df K mg "_law_far" sFar ["_law_last", "_law_some", "_law_both"] f fd) : FnOk P w K mg base CX0 1 f fd ["_law_last", "_law_some", "_law_both"] spFar := by
  refine F.F.ok scFar (fun vs H Q E h => ?_) (fun cdv A outer s H vs Q E hr h => ?_)
  · obtain ⟨n, ad, kd, ns, b, rfl, _⟩ := h
    rfl
  · obtain ⟨n, ad, kd, ns, b, rfl, hx, hl, hn, hne, hh, q⟩ := h
    refine ⟨_, pss_cons (ps_set (i := 3) scFar.nd rfl (.inl rfl) pe_int)
      (pss_cons (ps_for PassesOwn.never rfl (pi_range1 rfl B.range (pa_cons (pe_op op_add (pv 0) pe_int) pa_nil)) (pg_name (i := 4) scFar.nd rfl (.inr rfl))
        (pss_cons (ps_setLc (i := 5) (own := [("_law_one_here", 6)]) (g := gName 6) rfl scFar.nd rfl rfl (sw_true rfl rfl rfl (by decide +kernel)) (pi_ln 1)
            (blkOk_by (own := [("_law_one_here", 6)]) (N := nFar) (sc := defScope sFar) (by decide +kernel))
            (fun _ _ _ _ _ => pg_name (i := 6) scFar.nd rfl (.inl rfl)) (fun _ _ _ _ _ => pts_one (pt_cmpR op_le (pv 6) (pv 4) (nomark _))) (fun _ _ _ _ _ => pe_op op_sub (pv 4) (pv 6)))
        (pss_cons (ps_if (pt_val (pv 2)) (pss_one (ps_setLc (i := 5) (own := [("_law_one_here", 6)]) (g := gName 6) (tt := tYes) rfl scFar.nd rfl rfl (sw_true rfl rfl rfl (by decide +kernel)) (pi_ln 1)
            (blkOk_by (own := [("_law_one_here", 6)]) (N := nFar) (sc := defScope sFar) (by decide +kernel))
            (fun _ _ _ _ _ => pg_name (i := 6) scFar.nd rfl (.inl rfl)) (fun _ _ _ _ _ => pts_nil) (fun _ _ _ _ _ => pe_callB call_abs (by rfl) B.abs (by decide +kernel) (pa_cons (pe_op op_sub (pv 4) (pv 6)) pa_nil)))) pss_nil)
        (pss_one (ps_set (i := 3) scFar.nd rfl (.inl rfl) (pe_callB (call_max2 rfl) (by rfl) B.max (by decide +kernel) (pa_cons (pe_callTy call_int1 (by rfl) B.int (by decide +kernel) (pa_cons (pv 3) pa_nil))
          (pa_cons (pe_callB (cr_min rfl) (by rfl) B.min (by decide +kernel) (pa_cons (pe_lc (own := [("_law_step", 7)]) (g := gName 7) (tt := tYes) rfl scFar.nd (pi_list (pv 5))
            (blkOk_by (own := [("_law_step", 7)]) (N := nFar) (sc := defScope sFar) (by decide +kernel))
            (fun _ _ _ _ _ => pg_name (i := 7) scFar.nd rfl (.inl rfl)) (fun _ _ _ _ _ => pts_nil) (fun _ _ _ _ _ => pe_callTy call_int1 (by rfl) B.int (by decide +kernel) (pa_cons (pv 7) pa_nil))) pa_nil)) pa_nil))))))))
      (pss_one (ps_ret (pv 3)))), ?_⟩
    refine ⟨.int n, rfl, n, 1, rfl, rfl, n + 1, rfl, by omega, by omega, ?_⟩
    have en : ((n : Int) + 1).toNat = n + 1 := by omega
    refine for_range (lo := 0) (n := ((n : Int) + 1).toNat) (fun i σ H2 => ∃ y4 y5 y6 y7, σ = [some (.int n), some (.ref ad), some (.bl b), some (.int (((List.range i).map fun (t : Nat) => gmin (steps ns b (t : Int))).foldl up 0)), y4, y5, y6, y7] ∧ Same H H2)
      ⟨_, _, _, _, rfl, Same.refl _⟩ ?_ ?_
    · rintro i σ H2 hi ⟨y4, y5, y6, y7, rfl, s2⟩
      rw [Int.zero_add]
      have hx2 := s2 _ _ hx
      refine ⟨ad, kd, rfl, ⟨_, Tk.ln hx2⟩, fun D nD => ?_⟩
      refine lc_it walk_ln (fun j H' => Same H2 H' ∧ H' D = some (.lst ((((ns.take j).filter fun m => decide (m ≤ (i : Int))).map fun m => (i : Int) - m).map V.int))) ⟨same_upd nD, upd_same⟩ (fun j H' _ h => Tk.ln (h.1 _ _ hx2)) ?_ ?_
      · rintro j x H4 H5 hj ⟨s4, e4⟩ ⟨rfl, hxj⟩
        obtain ⟨z, hz, rfl⟩ := get_int hxj
        have et : (ns.take (j + 1)).filter (fun m => decide (m ≤ (i : Int))) = (ns.take j).filter (fun m => decide (m ≤ (i : Int))) ++ [z].filter fun m => decide (m ≤ (i : Int)) := by
          rw [take_more hz, List.filter_append]
        refine ⟨rfl, .int z, rfl, .int i, rfl, z, i, rfl, rfl, _, rfl, ?_⟩
        by_cases c : z ≤ (i : Int)
        · rw [decide_eq_true c]
          refine iteT ⟨.int i, rfl, .int z, rfl, i, z, rfl, rfl, _, e4, ?_, samePut s4 nD, ?_⟩
          · rw [List.length_map, List.length_map]
            exact ltLine (Nat.le_trans (List.length_filter_le _ _) (by rw [List.length_take]; exact Nat.min_le_right _ _)) hl
          · rw [upd_same, et, List.map_append, List.map_append, List.filter_cons_of_pos (by exact decide_eq_true c)]
            rfl
        · rw [decide_eq_false c]
          refine iteF ⟨s4, ?_⟩
          rw [e4, et, List.filter_cons_of_neg (by simpa using c), List.filter_nil, List.append_nil]
      · rintro H4 ⟨s4, e4⟩
        rw [List.length_map, List.take_length] at e4
        have hst : steps ns b (i : Int) ≠ [] := by
          unfold steps
          cases b with
          | true =>
            rw [if_pos rfl]
            intro z
            exact hne (List.map_eq_nil_iff.mp z)
          | false =>
            rw [if_neg Bool.false_ne_true]
            intro z
            exact filter_ne (hh rfl) (Int.natCast_nonneg i) (List.map_eq_nil_iff.mp z)
        have hsl : (steps ns b (i : Int)).length ≤ 1000 := by
          unfold steps
          split
          · rw [List.length_map]
            exact hl
          · rw [List.length_map]
            exact Nat.le_trans (List.length_filter_le _ _) hl
        refine ⟨.bl b, rfl, b, rfl, ?_⟩
        cases b with
        | true =>
          refine iteT ⟨ad, kd, rfl, ⟨_, Tk.ln (s4 _ _ hx2)⟩, fun D2 nD2 => ?_⟩
          refine lc_it walk_ln (fun j H' => Same H4 H' ∧ H' D2 = some (.lst (((ns.take j).map fun m => iabs ((i : Int) - m)).map V.int))) ⟨same_upd nD2, upd_same⟩ (fun j H' _ h => Tk.ln (h.1 _ _ (s4 _ _ hx2))) ?_ ?_
          · rintro j x H6 H7 hj ⟨s6, e6⟩ ⟨rfl, hxj⟩
            obtain ⟨z, hz, rfl⟩ := get_int hxj
            refine ⟨rfl, .int i, rfl, .int z, rfl, i, z, rfl, rfl, _, rfl, _, e6, ?_, samePut s6 nD2, ?_⟩
            · rw [List.length_map, List.length_map]
              exact ltLine (by rw [List.length_take]; exact Nat.min_le_right _ _) hl
            · rw [upd_same, take_more hz, List.map_append, List.map_append]
              rfl
          · rintro H6 ⟨s6, e6⟩
            rw [List.length_map, List.take_length] at e6
            have e6' : H6 D2 = some (.lst ((steps ns true (i : Int)).map V.int)) := e6
            refine ⟨_, rfl, .inl ⟨_, rfl, .ref D2, rfl, D2, rfl, ⟨_, .inl (.inl e6')⟩, fun M nM => ?_⟩⟩
            refine lc_list (K := K) (a := D2) (xs := (steps ns true (i : Int)).map V.int) (fun j H' => Same H6 H' ∧ H' M = some (.lst (((steps ns true (i : Int)).take j).map V.int))) ⟨same_upd nM, upd_same⟩ (fun j H' _ h => .inl (.inl (h.1 _ _ e6'))) ?_ ?_
            · rintro j x H8 hxj ⟨s8, e8⟩
              obtain ⟨z, hz, rfl⟩ := get_int hxj
              refine ⟨rfl, .int z, rfl, .inl ⟨z, rfl, _, e8, ?_, samePut s8 nM, ?_⟩⟩
              · rw [List.length_map]
                exact ltLine (by rw [List.length_take]; exact Nat.min_le_right _ _) hsl
              · rw [upd_same, take_more hz, List.map_append]
                rfl
            · rintro H8 ⟨s8, e8⟩
              rw [List.length_map, List.take_length] at e8
              refine ⟨M, _, rfl, .inl (.inl e8), List.length_pos_iff.mpr hst, fun m hm hle => ?_⟩
              refine ⟨_, _, rfl, ?_⟩
              have e : gmin (steps ns true (i : Int)) = m := gmin_eq hm hle
              rw [← e]
              refine ⟨some (.int i), some (.ref D2), y6, y7, ?_, s2.trans ((s4.trans s6).trans s8)⟩
              rw [List.range_succ, List.map_append, List.foldl_append]
              rfl
        | false =>
          have e6' : H4 D = some (.lst ((steps ns false (i : Int)).map V.int)) := e4
          refine iteF ⟨_, rfl, .inl ⟨_, rfl, .ref D, rfl, D, rfl, ⟨_, .inl (.inl e6')⟩, fun M nM => ?_⟩⟩
          refine lc_list (K := K) (a := D) (xs := (steps ns false (i : Int)).map V.int) (fun j H' => Same H4 H' ∧ H' M = some (.lst (((steps ns false (i : Int)).take j).map V.int))) ⟨same_upd nM, upd_same⟩ (fun j H' _ h => .inl (.inl (h.1 _ _ e6'))) ?_ ?_
          · rintro j x H8 hxj ⟨s8, e8⟩
            obtain ⟨z, hz, rfl⟩ := get_int hxj
            refine ⟨rfl, .int z, rfl, .inl ⟨z, rfl, _, e8, ?_, samePut s8 nM, ?_⟩⟩
            · rw [List.length_map]
              exact ltLine (by rw [List.length_take]; exact Nat.min_le_right _ _) hsl
            · rw [upd_same, take_more hz, List.map_append]
              rfl
          · rintro H8 ⟨s8, e8⟩
            rw [List.length_map, List.take_length] at e8
            refine ⟨M, _, rfl, .inl (.inl e8), List.length_pos_iff.mpr hst, fun m hm hle => ?_⟩
            refine ⟨_, _, rfl, ?_⟩
            have e : gmin (steps ns false (i : Int)) = m := gmin_eq hm hle
            rw [← e]
            refine ⟨some (.int i), some (.ref D), y6, y7, ?_, s2.trans (s4.trans s8)⟩
            rw [List.range_succ, List.map_append, List.foldl_append]
            rfl
    · rintro σ H2 ⟨y4, y5, y6, y7, rfl, s2⟩
      rw [en]
      exact ⟨_, rfl, q H2 s2⟩
end
end K19

/-! _law_choices -/
namespace K19
open PySem PySem.Spec PyProof.Rows L2
abbrev sChoices : Stmt := topS 27
abbrev nChoices : List Str := ["_law_last", "_law_many", "_law_lots", "_law_t", "_law_lot"]
theorem scChoices : FnScope nChoices ["_law_last", "_law_many"] (defScope sChoices) := ⟨rfl, rfl, rfl, by decide +kernel, rfl, by decide +kernel, by decide +kernel⟩
def rLenS (K : PySem.W.Frag) : List V → Hp → VK → Prop := fun xs H Q => ∃ p ys, xs = [.ref p] ∧ (SqL K H p ys ∨ SqT K H p ys) ∧ Q (.int ys.length) H
theorem call_lenK {X : Cx} {K : PySem.W.Frag} (h : X.K = K) : CallR X (.builtin "len") (rLenS K) := by
  subst h
  exact call_len_seq
/-! ### data -/
def dInts (l : List Int) : List PyData := l.map PyData.int
theorem dp_ints {K : PySem.W.Frag} {H : Hp} : ∀ l : List Int, DpAll K H (l.map V.int) (dInts l)
  | [] => .nil
  | x :: r => .cons (.int x) (dp_ints r)
theorem lay_ints : ∀ l : List Int, PyData.canLayAll0 (dInts l) = true
  | [] => by simp [dInts, PyData.canLayAll0]
  | x :: r => by
    have := lay_ints r
    simp [dInts, PyData.canLayAll0, PyData.canLay0] at this ⊢
    exact this
theorem depth_ints : ∀ l : List Int, PyData.depthAll (dInts l) ≤ 1
  | [] => by simp [dInts, PyData.depthAll]
  | x :: r => by
    have := depth_ints r
    simp [dInts, PyData.depthAll, PyData.depth] at this ⊢
    omega
theorem shaped_ints (l : List Int) : SeqAt.shaped (.tuple (dInts l)) = true := by
  unfold SeqAt.shaped
  rw [Bool.and_eq_true, decide_eq_true_eq]
  have := depth_ints l
  refine ⟨?_, ?_⟩
  · show PyData.canLay0 (.tuple (dInts l)) = true
    simp only [PyData.canLay0]
    exact lay_ints l
  · show PyData.depth (.tuple (dInts l)) ≤ 64
    simp only [PyData.depth]
    omega
theorem eqv_ints : ∀ l : List Int, PyData.eqvAll (dInts l) (dInts l) = true
  | [] => by simp [dInts, PyData.eqvAll]
  | x :: r => by
    have := eqv_ints r
    simp [dInts, PyData.eqvAll, PyData.eqv] at this ⊢
    exact this
theorem eqv_tup (l : List Int) : PyData.eqv (.tuple (dInts l)) (.tuple (dInts l)) = true := by
  simp only [PyData.eqv]
  exact eqv_ints l
theorem eqv_nil (l : List Int) : PyData.eqv (.tuple (dInts l)) (.tuple (dInts [])) = l.isEmpty := by
  cases l with
  | nil => simp [dInts, PyData.eqv, PyData.eqvAll]
  | cons x r => simp [dInts, PyData.eqv, PyData.eqvAll]
theorem dp_tup {K : PySem.W.Frag} {H : Hp} {a : Addr} {l : List Int} (h : H a = some (.tup (l.map V.int))) : Dp K H (.ref a) (.tuple (dInts l)) := .tup (.inl (.inl h)) (dp_ints l)
/-! ### lots: tuples at addresses -/
def Lots (H : Hp) (as : List Addr) (ls : List (List Int)) : Prop := as.length = ls.length ∧ ∀ (i : Nat) (a : Addr) (l : List Int), as[i]? = some a → ls[i]? = some l → H a = some (.tup (l.map V.int))
theorem Lots.nil {H : Hp} : Lots H [] [] := ⟨rfl, fun i a l h => by simp at h⟩
theorem Lots.same {H H' : Hp} {as : List Addr} {ls : List (List Int)} (s : Same H H') (h : Lots H as ls) : Lots H' as ls := ⟨h.1, fun i a l e1 e2 => s _ _ (h.2 i a l e1 e2)⟩
theorem Lots.append {H : Hp} {as bs : List Addr} {ls ms : List (List Int)} (h : Lots H as ls) (g : Lots H bs ms) : Lots H (as ++ bs) (ls ++ ms) := by
  refine ⟨by rw [List.length_append, List.length_append, h.1, g.1], fun i a l e1 e2 => ?_⟩
  by_cases hi : i < as.length
  · rw [List.getElem?_append_left hi] at e1
    rw [List.getElem?_append_left (by rw [← h.1]; exact hi)] at e2
    exact h.2 i a l e1 e2
  · rw [List.getElem?_append_right (by omega)] at e1
    rw [List.getElem?_append_right (by rw [← h.1]; omega), ← h.1] at e2
    exact g.2 _ a l e1 e2
theorem Lots.one {H : Hp} {a : Addr} {l : List Int} (h : H a = some (.tup (l.map V.int))) : Lots H [a] [l] := by
  refine ⟨rfl, fun i b m e1 e2 => ?_⟩
  cases i with
  | zero =>
    have e1' : a = b := Option.some.inj e1
    have e2' : l = m := Option.some.inj e2
    rw [← e1', ← e2']
    exact h
  | succ j => simp at e1
theorem Lots.get {H : Hp} {as : List Addr} {ls : List (List Int)} (h : Lots H as ls) {i : Nat} {x : V} (hx : (as.map V.ref)[i]? = some x) : ∃ a l, as[i]? = some a ∧ x = .ref a ∧ ls[i]? = some l ∧ H a = some (.tup (l.map V.int)) := by
  rw [List.getElem?_map] at hx
  cases e : as[i]? with
  | none =>
    rw [e] at hx
    cases hx
  | some a =>
    rw [e] at hx
    have hi := (List.getElem?_eq_some_iff.mp e).1
    have e2 : ls[i]? = some (ls[i]'(by rw [← h.1]; exact hi)) := List.getElem?_eq_getElem _
    exact ⟨a, _, rfl, (Option.some.inj hx).symm, e2, h.2 i a _ e e2⟩
theorem lots_len {n m : Nat} (hn : n ≤ 8) (h1 : 1 ≤ m) (h2 : m ≤ 4) : ∀ i, i ≤ n + 1 → ((List.range i).foldl (moreLots m) [[]]).length ≤ 600
  | 0, _ => by
    show 1 ≤ 600
    decide
  | i + 1, hi => of_decide_eq_true (of_checks check2_all (last := i) (by omega) h1 h2)
def spChoices : Sp := fun vs H Q _ => ∃ n m : Nat, vs = [.int n, .int m] ∧ n ≤ 8 ∧ 1 ≤ m ∧ m ≤ 4 ∧ ∀ (H' : Hp) (L : Addr) (as : List Addr), Same H H' → H L = none → H' L = some (.lst (as.map V.ref)) → Lots H' as (choices n m) → Q (.ref L) H'
section
variable {P : Program} {w : World} {K : PySem.W.Frag} {mg : Str → Option Value} {base : Heap}
theorem ok_choices {f : Addr} {fd : FuncData} (B : Bt mg) (F : Df K mg "_law_choices" sChoices ["_law_last", "_law_many"] f fd) : FnOk P w K mg base CX0 1 f fd ["_law_last", "_law_many"] spChoices := by
  refine F.F.ok scChoices (fun vs H Q E h => ?_) (fun cdv A outer s H vs Q E hr h => ?_)
  · obtain ⟨n, m, rfl, _⟩ := h
    rfl
  · obtain ⟨n, m, rfl, hn, h1, h2, q⟩ := h
    refine ⟨_, pss_cons (ps_set (i := 2) scChoices.nd rfl (.inl rfl) (pe_lst (pa_cons (pe_tup pa_nil) pa_nil)))
      (pss_cons (ps_for PassesOwn.never rfl (pi_range1 rfl B.range (pa_cons (pe_op op_add (pv 0) pe_int) pa_nil)) (pg_name (i := 3) scChoices.nd rfl (.inr rfl))
        (pss_one (ps_set (i := 2) scChoices.nd rfl (.inl rfl) (pe_op op_cat (pv 2) (pe_lc (own := [("_law_lot", 4)]) (g := gName 4) rfl scChoices.nd (pi_list (pv 2))
          (blkOk_by (own := [("_law_lot", 4)]) (N := nChoices) (sc := defScope sChoices) (by decide +kernel))
          (fun _ _ _ _ _ => pg_name (i := 4) scChoices.nd rfl (.inl rfl)) (fun _ _ _ _ _ => pts_one (pt_cmpR op_lt (pe_callB (call_lenK (K := K) rfl) (by rfl) B.len PySem.boot_len (pa_cons (pv 4) pa_nil)) (pv 1) (nomark _)))
          (fun _ _ _ _ _ => pe_op (r := rCatA K) op_catA (pv 4) (pe_tup (pa_cons (pv 3) pa_nil))))))))
      (pss_one (ps_ret (pe_lc (own := [("_law_lot", 4)]) (g := gName 4) rfl scChoices.nd (pi_list (pv 2))
          (blkOk_by (own := [("_law_lot", 4)]) (N := nChoices) (sc := defScope sChoices) (by decide +kernel))
          (fun _ _ _ _ _ => pg_name (i := 4) scChoices.nd rfl (.inl rfl)) (fun _ _ _ _ _ => pts_one (pt_cmpR (r := rNeD K) (op_neD (by exact hr.units)) (pv 4) (pe_tup pa_nil) (nomark _)))
          (fun _ _ _ _ _ => pv 4))))), ?_⟩
    refine ⟨by show 0 ≤ sizeLine; decide, fun e0 ne0 => ⟨by show 1 ≤ sizeLine; decide, fun L0 nL0 => ?_⟩⟩
    have s0 : Same H (upd (upd H e0 (.tup [])) L0 (.lst [.ref e0])) := sameU (same_upd ne0) nL0
    have nL0' : H L0 = none := Same.free (same_upd ne0) nL0
    refine ⟨.int n, rfl, n, 1, rfl, rfl, n + 1, rfl, by omega, by omega, ?_⟩
    have en : ((n : Int) + 1).toNat = n + 1 := by omega
    refine for_range (lo := 0) (n := ((n : Int) + 1).toNat) (fun i σ H2 => ∃ (L : Addr) (as : List Addr) (y3 y4 : Option V), σ = [some (.int n), some (.int m), some (.ref L), y3, y4] ∧ Same H H2 ∧ H2 L = some (.lst (as.map V.ref)) ∧ Lots H2 as ((List.range i).foldl (moreLots m) [[]]) ∧
        ∀ l ∈ (List.range i).foldl (moreLots m) [[]], l.length ≤ 4) ⟨L0, [e0], _, _, rfl, s0, upd_same, ?_, ?_⟩ ?_ ?_
    · refine Lots.one (l := []) ?_
      rw [upd_ne (ne_of_none upd_same nL0), upd_same]
      rfl
    · intro l hl
      have e : l = [] := by simpa using hl
      rw [e]
      decide
    · rintro i σ H2 hi ⟨L, as, y3, y4, rfl, s2, eL, hL, h4⟩
      rw [Int.zero_add]
      have hlen := lots_len hn h1 h2 i (by omega)
      generalize hls : (List.range i).foldl (moreLots m) [[]] = ls at hL h4 hlen
      have hsucc : (List.range (i + 1)).foldl (moreLots m) [[]] = ls ++ (ls.filter fun l => decide (l.length < m)).map fun l => l ++ [(i : Int)] := by
        rw [List.range_succ, List.foldl_append, hls]
        rfl
      refine ⟨.ref L, rfl, .ref L, rfl, L, rfl, ⟨_, .inl (.inl eL)⟩, fun D nD => ?_⟩
      refine lc_list (K := K) (a := L) (xs := as.map V.ref) (fun j H' => Same H2 H' ∧ ∃ bs : List Addr, H' D = some (.lst (bs.map V.ref)) ∧ Lots H' bs (((ls.take j).filter fun l => decide (l.length < m)).map fun l => l ++ [(i : Int)]))
        ⟨same_upd nD, [], upd_same, Lots.nil⟩ (fun j H' _ h => .inl (.inl (h.1 _ _ eL))) ?_ ?_
      · rintro j x H4 hxj ⟨s4, bs, eb, hb⟩
        obtain ⟨a, l, _, rfl, hlj, hta⟩ := hL.get hxj
        have ha4 := s4 _ _ hta
        have et : (ls.take (j + 1)).filter (fun l => decide (l.length < m)) = (ls.take j).filter (fun l => decide (l.length < m)) ++ [l].filter fun l => decide (l.length < m) := by
          rw [take_more hlj, List.filter_append]
        refine ⟨rfl, .ref a, rfl, a, _, rfl, .inr (.inl (.inl ha4)), .int m, rfl, _, m, rfl, rfl, _, rfl, ?_⟩
        rw [List.length_map]
        by_cases c : l.length < m
        · rw [decide_eq_true (show (l.length : Int) < (m : Int) by omega)]
          refine iteT ⟨.ref a, rfl, .int i, rfl, by show 1 ≤ sizeLine; decide, fun p np => ?_⟩
          have s5 : Same H4 (upd H4 p (.tup [.int i])) := same_upd np
          have hp : (upd H4 p (.tup [.int i])) p = some (.tup ([(i : Int)].map V.int)) := upd_same
          have e1 : (ls.take (j + 1)).filter (fun l => decide (l.length < m)) = (ls.take j).filter (fun l => decide (l.length < m)) ++ [l] := by
            rw [et, List.filter_cons_of_pos (by exact decide_eq_true c)]
            rfl
          have blen : (bs.map V.ref).length < sizeLine := by
            rw [List.length_map, hb.1, List.length_map]
            refine ltLine (Nat.le_trans (List.length_filter_le _ _) ?_) (show ls.length ≤ 1000 by omega)
            rw [List.length_take]
            exact Nat.min_le_right _ _
          -- the new lot stands at z
          have fin : ∀ (z : Addr) (H6 : Hp), Same H4 H6 → H6 z = some (.tup ((l ++ [(i : Int)]).map V.int)) →
              ∃ acc, H6 D = some (.lst acc) ∧ acc.length < sizeLine ∧ Same H2 (upd H6 D (.lst (acc ++ [.ref z]))) ∧ ∃ bs : List Addr, (upd H6 D (.lst (acc ++ [.ref z]))) D = some (.lst (bs.map V.ref)) ∧
                Lots (upd H6 D (.lst (acc ++ [.ref z]))) bs (((ls.take (j + 1)).filter fun l => decide (l.length < m)).map fun l => l ++ [(i : Int)]) := fun z H6 s6 hz => by
            refine ⟨_, s6 _ _ eb, blen, samePut (s4.trans s6) nD, bs ++ [z], ?_, ?_⟩
            · rw [upd_same, List.map_append]
              rfl
            · rw [e1, List.map_append]
              have nd : ∀ (b : Addr) (l : List Int), H6 b = some (.tup (l.map V.int)) → (upd H6 D (.lst (bs.map V.ref ++ [.ref z]))) b = some (.tup (l.map V.int)) := fun b l e => by
                rw [upd_ne (ne_of e (s6 _ _ eb) (fun z => nomatch z))]
                exact e
              exact Lots.append ⟨hb.1, fun k b l e1 e2 => nd b l (s6 _ _ (hb.2 k b l e1 e2))⟩ (Lots.one (nd z _ hz))
          refine ⟨a, p, l.map V.int, [.int i], rfl, rfl, .inl (.inl (s5 _ _ ha4)), .inl (.inl hp), ?_, fun ez => ?_, fun hne1 hne2 => absurd hne2 (List.cons_ne_nil _ _), fun hne1 _ z nz => ?_⟩
          · have := h4 l (List.mem_of_getElem? hlj)
            rw [List.length_map]
            show l.length + 1 ≤ sizeLine
            exact leLine (by omega)
          · have el : l = [] := List.map_eq_nil_iff.mp ez
            subst el
            exact fin p _ s5 hp
          · refine fin z _ (sameU s5 nz) ?_
            rw [upd_same, List.map_append]
            rfl
        · rw [decide_eq_false (show ¬ (l.length : Int) < (m : Int) by omega)]
          refine iteF ⟨s4, bs, eb, ?_⟩
          rw [et, List.filter_cons_of_neg (by simpa using c), List.filter_nil, List.append_nil]
          exact hb
      · rintro H4 ⟨s4, bs, eb, hb⟩
        rw [List.length_map, hL.1, List.take_length] at hb
        have lb : bs.length ≤ 600 := by
          rw [hb.1, List.length_map]
          exact Nat.le_trans (List.length_filter_le _ _) hlen
        refine ⟨L, D, _, _, rfl, rfl, s4 _ _ eL, eb, ?_, fun p np => ?_⟩
        · rw [List.length_map, List.length_map]
          have := hL.1
          exact Nat.le_trans (show as.length + bs.length ≤ 1200 by omega) (by decide)
        · refine ⟨p, as ++ bs, _, _, rfl, (s2.trans s4).trans (same_upd np), ?_, ?_, ?_⟩
          · rw [upd_same, List.map_append]
          · rw [hsucc]
            exact Lots.append ((hL.same s4).same (same_upd np)) (hb.same (same_upd np))
          · intro l hl
            rw [hsucc] at hl
            rcases List.mem_append.mp hl with hl | hl
            · exact h4 l hl
            · obtain ⟨l0, hl0, rfl⟩ := List.mem_map.mp hl
              have c := of_decide_eq_true (List.mem_filter.mp hl0).2
              rw [List.length_append]
              show l0.length + 1 ≤ 4
              omega
    · rintro σ H2 ⟨L, as, y3, y4, rfl, s2, eL, hL, h4⟩
      rw [en] at hL h4
      have hlen := lots_len hn h1 h2 (n + 1) (Nat.le_refl _)
      have e0 : (List.range (n + 1)).foldl (moreLots m) [[]] = lots0 n m := rfl
      rw [e0] at hL h4 hlen
      refine ⟨.ref L, rfl, L, rfl, ⟨_, .inl (.inl eL)⟩, fun D nD => ?_⟩
      refine lc_list (K := K) (a := L) (xs := as.map V.ref) (fun j H' => Same H2 H' ∧ ∃ bs : List Addr, H' D = some (.lst (bs.map V.ref)) ∧ Lots H' bs (((lots0 n m).take j).filter fun l => !l.isEmpty))
        ⟨same_upd nD, [], upd_same, Lots.nil⟩ (fun j H' _ h => .inl (.inl (h.1 _ _ eL))) ?_ ?_
      · rintro j x H4 hxj ⟨s4, bs, eb, hb⟩
        obtain ⟨a, l, _, rfl, hlj, hta⟩ := hL.get hxj
        have ha4 := s4 _ _ hta
        have et : ((lots0 n m).take (j + 1)).filter (fun l => !l.isEmpty) = ((lots0 n m).take j).filter (fun l => !l.isEmpty) ++ [l].filter fun l => !l.isEmpty := by
          rw [take_more hlj, List.filter_append]
        refine ⟨rfl, .ref a, rfl, by show 0 ≤ sizeLine; decide, fun p np => ?_⟩
        have s5 : Same H4 (upd H4 p (.tup [])) := same_upd np
        refine ⟨_, _, dp_tup (s5 _ _ ha4), dp_tup (l := []) upd_same, shaped_ints l, shaped_ints [], _, rfl, ?_⟩
        rw [eqv_nil]
        cases el : l.isEmpty with
        | true =>
          refine iteF ⟨s4.trans s5, bs, s5 _ _ eb, ?_⟩
          rw [et, List.filter_cons_of_neg (by rw [el]; decide), List.filter_nil, List.append_nil]
          exact hb.same s5
        | false =>
          refine iteT ⟨.ref a, rfl, _, s5 _ _ eb, ?_, samePut (s4.trans s5) nD, bs ++ [a], ?_, ?_⟩
          · rw [List.length_map, hb.1]
            refine ltLine (Nat.le_trans (List.length_filter_le _ _) ?_) (show (lots0 n m).length ≤ 1000 by omega)
            rw [List.length_take]
            exact Nat.min_le_right _ _
          · rw [upd_same, List.map_append]
            rfl
          · rw [et, List.filter_cons_of_pos (by rw [el]; rfl), List.filter_nil]
            have nd : ∀ (b : Addr) (l : List Int), (upd H4 p (.tup [])) b = some (.tup (l.map V.int)) → (upd (upd H4 p (.tup [])) D (.lst (bs.map V.ref ++ [.ref a]))) b = some (.tup (l.map V.int)) := fun b l e => by
              rw [upd_ne (ne_of e (s5 _ _ eb) (fun z => nomatch z))]
              exact e
            exact Lots.append ⟨hb.1, fun k b l e1 e2 => nd b l (s5 _ _ (hb.2 k b l e1 e2))⟩ (Lots.one (nd a l (s5 _ _ ha4)))
      · rintro H4 ⟨s4, bs, eb, hb⟩
        rw [List.length_map, hL.1, List.take_length] at hb
        exact q H4 D bs (s2.trans s4) (Same.free s2 nD) eb hb
end
end K19

/-! _law_evens, _law_called -/
namespace K19
open PySem PySem.Spec PyProof.Rows L2
abbrev sEvens : Stmt := topS 28
abbrev sCalled : Stmt := topS 29
abbrev nEvens : List Str := ["_law_last", "_law_many", "_law_step", "_law_first", "_law_near", "_law_second", "_law_k", "_law_one_here"]
theorem scEvens : FnScope nEvens ["_law_last", "_law_many"] (defScope sEvens) := ⟨rfl, rfl, rfl, by decide +kernel, rfl, by decide +kernel, by decide +kernel⟩
theorem scCalled : FnScope ["_law_way", "_law_last", "_law_more"] ["_law_way", "_law_last", "_law_more"] (defScope sCalled) := ⟨rfl, rfl, rfl, by decide +kernel, rfl, by decide +kernel, by decide +kernel⟩
theorem range_int {n : Nat} {hi : Nat} (h : n ≤ hi) : isRange (.int n) 0 hi = true := by
  show (decide ((0 : Int) ≤ (n : Int)) && decide ((n : Int) ≤ (hi : Int))) = true
  rw [decide_eq_true (Int.natCast_nonneg n), decide_eq_true (Int.ofNat_le.mpr h)]
  rfl
theorem many_int {m : Nat} (h : 1 ≤ m) : isMany (.int m) = true := decide_eq_true (by omega)
theorem two_of {CC : Addr} {n m : Nat} {H : Hp} {E : XK} {good : Nat → Nat → Prop} (hn : n ≤ 600) (h1 : 1 ≤ m) (h2 : m ≤ 1000) (h : good n m) : Two CC [.int n, .int m] H E good := by
  refine ⟨.int n, .int m, "int", "int", rfl, rfl, rfl, fun z => ?_, fun _ z => ?_, fun _ => ⟨m, rfl, h2⟩, fun n' m' e1 e2 _ _ _ => ?_⟩
  · have y : isRange (.int n) 0 600 = true := range_int (hi := 600) hn
    rw [y] at z
    cases z
  · rw [many_int h1] at z
    cases z
  · have e1' : n = n' := Int.ofNat.inj (V.int.inj e1)
    have e2' : m = m' := Int.ofNat.inj (V.int.inj e2)
    rw [← e1', ← e2']
    exact h
theorem firsts_is {n m : Nat} (h1 : 1 ≤ m) : (((List.range (n + 1)).filter fun (k : Nat) => decide ((leastOn n m + 1) * (k : Int) ≤ (n : Int))).map fun (k : Nat) => (leastOn n m + 1) * (k : Int)) = evenOn n m := by
  have e : leastOn n m + 1 = (stepOf n m : Int) := by
    unfold leastOn
    omega
  rw [e, ← evens_first h1]
  have e2 : (fun (k : Nat) => decide ((stepOf n m : Int) * (k : Int) ≤ (n : Int))) = fun k => decide (stepOf n m * k ≤ n) := by
    funext k
    refine decide_eq_decide.mpr ?_
    rw [← Int.natCast_mul]
    exact Int.ofNat_le
  rw [e2]
  exact List.map_congr_left fun k _ => (Int.natCast_mul _ _).symm
theorem seconds_is {n m : Nat} : ((((List.range (n + 2)).map fun (k : Nat) => leastBoth n m + (2 * leastBoth n m + 1) * (k : Int)).filter fun z => decide (z ≤ (n : Int) + leastBoth n m)).map fun z => dn z (n : Int)) = evenBoth n m := by
  rw [List.filter_map, List.map_map, ← evens_second]
  have c : ∀ k : Nat, leastBoth n m + (2 * leastBoth n m + 1) * (k : Int) = ((dist n m + (2 * dist n m + 1) * k : Nat) : Int) := fun k => by
    unfold leastBoth
    rw [← even_cast, Int.mul_comm (k : Int)]
  have e2 : ((fun z : Int => decide (z ≤ (n : Int) + leastBoth n m)) ∘ fun (k : Nat) => leastBoth n m + (2 * leastBoth n m + 1) * (k : Int)) = fun k => decide (dist n m + (2 * dist n m + 1) * k ≤ n + dist n m) := by
    funext k
    refine decide_eq_decide.mpr ?_
    show leastBoth n m + (2 * leastBoth n m + 1) * (k : Int) ≤ (n : Int) + leastBoth n m ↔ _
    rw [c k]
    unfold leastBoth
    omega
  rw [e2]
  refine List.map_congr_left fun k _ => ?_
  show dn (leastBoth n m + (2 * leastBoth n m + 1) * (k : Int)) n = evenAt n m k
  rw [c k]
  rfl
def spEvens : Sp := fun vs H Q _ => ∃ n m : Nat, vs = [.int n, .int m] ∧ n ≤ 600 ∧ 1 ≤ m ∧ m ≤ 1000 ∧
  ∀ (H' : Hp) (p a b : Addr), Same H H' → H' p = some (.lst [.ref a, .ref b]) → H' a = some (.tup ((evenOn n m).map V.int)) → H' b = some (.tup ((evenBoth n m).map V.int)) → Q (.ref p) H'
def spCalled (CC : Addr) : Sp := fun vs H Q E => ∃ (way : Nat) (v u : V) (t : String), vs = [.int way, v, u] ∧ way < 6 ∧ Arg H v t ∧
  ((isRange v 0 600 = false ∧ u = .non ∧ Raised CC v H E) ∨ (way < 4 ∧ isRange v 0 600 = true ∧ (∃ t', Arg H u t') ∧ isMany u = false ∧ Raised CC u H E))
section
variable {w : World} {K : PySem.W.Frag} {mg : Str → Option Value} {base : Heap} {CC CM f0 f1 f2 f3 f4 f5 : Addr} {fd0 fd1 fd2 fd3 fd4 fd5 : FuncData}
theorem ok_evens {f : Addr} {fd : FuncData} (B : Bt mg) (F : Df K mg "_law_evens" sEvens ["_law_last", "_law_many"] f fd)
    (D0 : Df K mg "least_on" sLeastOn ["last", "many"] f0 fd0) (G0 : FnOk theProg w K mg base (L2.CX theProg w) 4 f0 fd0 ["last", "many"] (spLeast leastOn CC))
    (D1 : Df K mg "least_both" sLeastBoth ["last", "many"] f1 fd1) (G1 : FnOk theProg w K mg base (L2.CX theProg w) 4 f1 fd1 ["last", "many"] (spLeast leastBoth CC)) :
    FnOk theProg w K mg base CX0 5 f fd ["_law_last", "_law_many"] spEvens := by
  refine F.F.ok scEvens (fun vs H Q E h => ?_) (fun cdv A outer s H vs Q E hr h => ?_)
  · obtain ⟨n, m, rfl, _⟩ := h
    rfl
  · obtain ⟨n, m, rfl, hn, h1, h2, q⟩ := h
    refine ⟨_, pss_cons (ps_set (i := 2) scEvens.nd rfl (.inr rfl) (pe_op op_add (pcall D0 G0 hr passL (pa_cons (pv 0) (pa_cons (pv 1) pa_nil))) pe_int))
      (pss_cons (ps_setLc (i := 3) (own := [("_law_k", 6)]) (g := gName 6) rfl scEvens.nd rfl rfl (sw_true rfl rfl rfl (by decide +kernel)) (pi_range1 rfl B.range (pa_cons (pe_op op_add (pv 0) pe_int) pa_nil))
          (blkOk_by (own := [("_law_k", 6)]) (N := nEvens) (sc := defScope sEvens) (by decide +kernel))
          (fun _ _ _ _ _ => pg_name (i := 6) scEvens.nd rfl (.inl rfl)) (fun _ _ _ _ _ => pts_one (pt_cmpR op_le (pe_op op_mul (pv 2) (pv 6)) (pv 0) (nomark _))) (fun _ _ _ _ _ => pe_op op_mul (pv 2) (pv 6)))
      (pss_cons (ps_set (i := 4) scEvens.nd rfl (.inr rfl) (pcall D1 G1 hr passL (pa_cons (pv 0) (pa_cons (pv 1) pa_nil))))
      (pss_cons (ps_setLc (i := 5) (own := [("_law_k", 6)]) (g := gName 6) (tt := tYes) rfl scEvens.nd rfl rfl (sw_true rfl rfl rfl (by decide +kernel)) (pi_range1 rfl B.range (pa_cons (pe_op op_add (pv 0) pe_int) pa_nil))
          (blkOk_by (own := [("_law_k", 6)]) (N := nEvens) (sc := defScope sEvens) (by decide +kernel))
          (fun _ _ _ _ _ => pg_name (i := 6) scEvens.nd rfl (.inl rfl)) (fun _ _ _ _ _ => pts_nil) (fun _ _ _ _ _ => pe_op op_add (pv 4) (pe_op op_mul (pe_op op_add (pe_op op_mul pe_int (pv 4)) pe_int) (pv 6))))
      (pss_cons (ps_setLc (i := 5) (own := [("_law_one_here", 7)]) (g := gName 7) rfl scEvens.nd rfl rfl (sw_true rfl rfl rfl (by decide +kernel)) (pi_list (pv 5))
          (blkOk_by (own := [("_law_one_here", 7)]) (N := nEvens) (sc := defScope sEvens) (by decide +kernel))
          (fun _ _ _ _ _ => pg_name (i := 7) scEvens.nd rfl (.inl rfl)) (fun _ _ _ _ _ => pts_one (pt_cmpR op_le (pv 7) (pe_op op_add (pv 0) (pv 4)) (nomark _)))
          (fun _ _ _ _ _ => pe_callB (call_min2 rfl) (by rfl) B.min (by decide +kernel) (pa_cons (pe_callTy call_int1 (by rfl) B.int (by decide +kernel) (pa_cons (pv 7) pa_nil))
            (pa_cons (pe_callTy call_int1 (by rfl) B.int (by decide +kernel) (pa_cons (pv 0) pa_nil)) pa_nil))))
      (pss_one (ps_ret (pe_lst (pa_cons (pe_callTy call_tuple_of (by rfl) B.tuple (by decide +kernel) (pa_cons (pv 3) pa_nil)) (pa_cons (pe_callTy call_tuple_of (by rfl) B.tuple (by decide +kernel) (pa_cons (pv 5) pa_nil)) pa_nil))))))))), ?_⟩
    have en : ((n : Int) + 1).toNat = n + 1 := by omega
    have en2 : ((n : Int) + 2).toNat = n + 2 := by omega
    have sl := stepOf_le (last := n) h1
    have sp := stepOf_pos (last := n) h1
    have dl := dist_le (last := n) h1
    have cm : ∀ j : Int, CMul (leastOn n m + 1) j := fun j => by
      refine .inl ⟨?_, ?_⟩ <;> unfold leastOn <;> omega
    have cn : ∀ j : Int, CMul (2 * leastBoth n m + 1) j := fun j => by
      refine .inl ⟨?_, ?_⟩ <;> unfold leastBoth <;> omega
    -- the first list
    refine ⟨.int n, rfl, .int m, rfl, two_of hn h1 h2 ⟨_, 1, rfl, rfl, ?_⟩⟩
    refine ⟨.int n, rfl, n, 1, rfl, rfl, n + 1, rfl, by omega, by omega, fun D1 nD1 => ?_⟩
    refine lc_range (lo := 0) (n := ((n : Int) + 1).toNat) (fun i H' => Same H H' ∧ H' D1 = some (.lst ((((List.range i).filter fun (k : Nat) => decide ((leastOn n m + 1) * (k : Int) ≤ (n : Int))).map fun (k : Nat) => (leastOn n m + 1) * (k : Int)).map V.int))) ⟨same_upd nD1, upd_same⟩ ?_ ?_
    · rintro i H2 hi ⟨s2, e2⟩
      rw [Int.zero_add]
      refine ⟨rfl, _, rfl, .int i, rfl, _, i, rfl, rfl, cm _, .int n, rfl, _, n, rfl, rfl, _, rfl, ite_bool (fun c => ?_) (fun c => ?_)⟩
      · refine ⟨_, rfl, .int i, rfl, _, i, rfl, rfl, cm _, _, e2, ?_, samePut s2 nD1, ?_⟩
        · rw [List.length_map, List.length_map]
          refine ltLine (Nat.le_trans (List.length_filter_le _ _) ?_) (Nat.le_refl 1000)
          rw [List.length_range]
          omega
        · rw [upd_same, List.range_succ, List.filter_append, List.map_append, List.map_append, List.filter_cons_of_pos (by exact c)]
          rfl
      · refine ⟨s2, ?_⟩
        rw [e2, List.range_succ, List.filter_append, List.filter_cons_of_neg (by rw [c]; exact Bool.false_ne_true), List.filter_nil, List.append_nil]
    · rintro H2 ⟨s2, e2⟩
      rw [en, firsts_is h1] at e2
      -- the second list
      refine ⟨.int n, rfl, .int m, rfl, two_of hn h1 h2 ?_⟩
      refine ⟨.int n, rfl, n, 2, rfl, rfl, n + 2, rfl, by omega, by omega, fun D2 nD2 => ?_⟩
      refine lc_range (lo := 0) (n := ((n : Int) + 2).toNat) (fun i H' => Same H2 H' ∧ H' D2 = some (.lst (((List.range i).map fun (k : Nat) => leastBoth n m + (2 * leastBoth n m + 1) * (k : Int)).map V.int))) ⟨same_upd nD2, upd_same⟩ ?_ ?_
      · rintro i H3 hi ⟨s3, e3⟩
        rw [Int.zero_add]
        refine ⟨rfl, .int (leastBoth n m), rfl, .int (leastBoth n m), rfl, 2, leastBoth n m, rfl, rfl, .inl ⟨by decide, by decide⟩, _, 1, rfl, rfl, .int i, rfl, _, i, rfl, rfl, cn _, _, _, rfl, rfl, _, e3, ?_, samePut s3 nD2, ?_⟩
        · rw [List.length_map, List.length_map, List.length_range]
          exact ltLine (show i ≤ 1000 by omega) (Nat.le_refl _)
        · rw [upd_same, List.range_succ, List.map_append, List.map_append]
          rfl
      · rintro H3 ⟨s3, e3⟩
        rw [en2] at e3
        generalize hz : ((List.range (n + 2)).map fun (k : Nat) => leastBoth n m + (2 * leastBoth n m + 1) * (k : Int)) = zs at e3
        have hzl : zs.length ≤ 1000 := by
          rw [← hz, List.length_map, List.length_range]
          omega
        refine ⟨.ref D2, rfl, D2, rfl, ⟨_, .inl (.inl e3)⟩, fun D3 nD3 => ?_⟩
        refine lc_list (K := K) (a := D2) (xs := zs.map V.int) (fun i H' => Same H3 H' ∧ H' D3 = some (.lst ((((zs.take i).filter fun z => decide (z ≤ (n : Int) + leastBoth n m)).map fun z => dn z (n : Int)).map V.int))) ⟨same_upd nD3, upd_same⟩ (fun i H' _ h => .inl (.inl (h.1 _ _ e3))) ?_ ?_
        · rintro i x H4 hxi ⟨s4, e4⟩
          obtain ⟨z, hzi, rfl⟩ := get_int hxi
          have et : (zs.take (i + 1)).filter (fun z => decide (z ≤ (n : Int) + leastBoth n m)) = (zs.take i).filter (fun z => decide (z ≤ (n : Int) + leastBoth n m)) ++ [z].filter fun z => decide (z ≤ (n : Int) + leastBoth n m) := by
            rw [take_more hzi, List.filter_append]
          refine ⟨rfl, .int z, rfl, .int n, rfl, .int (leastBoth n m), rfl, n, leastBoth n m, rfl, rfl, z, _, rfl, rfl, _, rfl, ite_bool (fun c => ?_) (fun c => ?_)⟩
          · refine ⟨.int z, rfl, .inl ⟨z, rfl, .int n, rfl, .inl ⟨n, rfl, z, n, rfl, _, e4, ?_, samePut s4 nD3, ?_⟩⟩⟩
            · rw [List.length_map, List.length_map]
              exact ltLine (Nat.le_trans (List.length_filter_le _ _) (by rw [List.length_take]; exact Nat.min_le_right _ _)) hzl
            · rw [upd_same, et, List.map_append, List.map_append, List.filter_cons_of_pos (by exact c)]
              rfl
          · refine ⟨s4, ?_⟩
            rw [e4, et, List.filter_cons_of_neg (by rw [c]; exact Bool.false_ne_true), List.filter_nil, List.append_nil]
        · rintro H4 ⟨s4, e4⟩
          rw [List.length_map, List.take_length, ← hz, seconds_is] at e4
          -- both as tuples
          have e1' := s4 _ _ (s3 _ _ e2)
          refine ⟨.ref D1, rfl, D1, _, rfl, .inl ⟨.inl (.inl e1'), fun a na => ?_⟩⟩
          refine ⟨.ref D3, rfl, D3, _, rfl, .inl ⟨.inl (.inl (same_upd na _ _ e4)), fun b nb => ⟨by show 2 ≤ sizeLine; decide, fun p np => ?_⟩⟩⟩
          have sa := same_upd (o := .tup ((evenOn n m).map V.int)) na
          have sb := same_upd (o := .tup ((evenBoth n m).map V.int)) nb
          have sc := same_upd (o := .lst [.ref a, .ref b]) np
          exact q _ p a b ((((s2.trans s3).trans s4).trans sa).trans (sb.trans sc)) upd_same (sc _ _ (sb _ _ upd_same)) (sc _ _ upd_same)
theorem ok_called {f : Addr} {fd : FuncData} (F : Df K mg "_law_called" sCalled ["_law_way", "_law_last", "_law_more"] f fd)
    (D0 : Df K mg "least_on" sLeastOn ["last", "many"] f0 fd0) (G0 : FnOk theProg w K mg base (L2.CX theProg w) 4 f0 fd0 ["last", "many"] (spLeast leastOn CC))
    (D1 : Df K mg "least_both" sLeastBoth ["last", "many"] f1 fd1) (G1 : FnOk theProg w K mg base (L2.CX theProg w) 4 f1 fd1 ["last", "many"] (spLeast leastBoth CC))
    (D2 : Df K mg "even_on" sEvenOn ["last", "many"] f2 fd2) (G2 : FnOk theProg w K mg base (L2.CX theProg w) 5 f2 fd2 ["last", "many"] (spEven evenOn CC))
    (D3 : Df K mg "even_both" sEvenBoth ["last", "many"] f3 fd3) (G3 : FnOk theProg w K mg base (L2.CX theProg w) 5 f3 fd3 ["last", "many"] (spEven evenBoth CC))
    (D4 : Df K mg "reach_on" sReachOn ["last", "moments"] f4 fd4) (G4 : FnOk theProg w K mg base (L2.CX theProg w) 4 f4 fd4 ["last", "moments"] (spReach true reachOn CC CM))
    (D5 : Df K mg "reach_both" sReachBoth ["last", "moments"] f5 fd5) (G5 : FnOk theProg w K mg base (L2.CX theProg w) 4 f5 fd5 ["last", "moments"] (spReach false reachBoth CC CM)) :
    FnOk theProg w K mg base (L2.CX theProg w) 6 f fd ["_law_way", "_law_last", "_law_more"] (spCalled CC) := by
  refine F.F.okX scCalled (fun vs H Q E h => ?_) (fun cdv A outer s H vs Q E hr h => ?_)
  · obtain ⟨way, v, u, t, rfl, _⟩ := h
    rfl
  · obtain ⟨way, v, u, t, rfl, hw, ha, h⟩ := h
    refine ⟨_, pss_cons (ps_if (pt_cmpR op_eq (pv 0) pe_int (nomark _)) (pss_one (ps_ret (pcall D0 G0 (hr.mono (by decide)) (passes_call (takes_of rfl rfl rfl rfl) (fun _ _ _ _ h => h)) (pa_cons (pv 1) (pa_cons (pv 2) pa_nil))))) pss_nil)
      (pss_cons (ps_if (pt_cmpR op_eq (pv 0) pe_int (nomark _)) (pss_one (ps_ret (pcall D1 G1 (hr.mono (by decide)) (passes_call (takes_of rfl rfl rfl rfl) (fun _ _ _ _ h => h)) (pa_cons (pv 1) (pa_cons (pv 2) pa_nil))))) pss_nil)
      (pss_cons (ps_if (pt_cmpR op_eq (pv 0) pe_int (nomark _)) (pss_one (ps_ret (pcall D2 G2 hr (passes_call (takes_of rfl rfl rfl rfl) (fun _ _ _ _ h => h)) (pa_cons (pv 1) (pa_cons (pv 2) pa_nil))))) pss_nil)
      (pss_cons (ps_if (pt_cmpR op_eq (pv 0) pe_int (nomark _)) (pss_one (ps_ret (pcall D3 G3 hr (passes_call (takes_of rfl rfl rfl rfl) (fun _ _ _ _ h => h)) (pa_cons (pv 1) (pa_cons (pv 2) pa_nil))))) pss_nil)
      (pss_one (ps_ret (pe_ifExp (pt_cmpR op_eq (pv 0) pe_int (nomark _)) (pcall D4 G4 (hr.mono (by decide)) (passes_call (takes_of rfl rfl rfl rfl) (fun _ _ _ _ h => h)) (pa_cons (pv 1) (pa_cons (pv 2) pa_nil)))
        (pcall D5 G5 (hr.mono (by decide)) (passes_call (takes_of rfl rfl rfl rfl) (fun _ _ _ _ h => h)) (pa_cons (pv 1) (pa_cons (pv 2) pa_nil))))))))), ?_⟩
    have hno : ∀ n : Nat, v = .int n → n ≤ 600 → isRange v 0 600 = true := fun n e hn => by
      rw [e]
      exact range_int (hi := 600) hn
    have two : ∀ good : Nat → Nat → Prop, way < 4 → Two CC [v, u] H E good := fun good hw4 => by
      rcases h with ⟨hb, rfl, r⟩ | ⟨_, hb, ⟨t', ha'⟩, hm, r⟩
      · refine ⟨v, .non, t, "NoneType", rfl, ha, rfl, fun _ => r, fun z => ?_, fun z => ?_, fun n m _ z => ?_⟩
        · rw [hb] at z
          cases z
        · exact Bool.noConfusion (show false = true from z)
        · cases z
      · refine ⟨v, u, t, t', rfl, ha, ha', fun z => ?_, fun _ _ => r, fun z => ?_, fun n m _ e _ h1 _ => ?_⟩
        · rw [hb] at z
          cases z
        · rw [hm] at z
          cases z
        · rw [e, many_int h1] at hm
          cases hm
    have reach : ∀ b F, ¬ way < 4 → spReach b F CC CM [v, u] H Q E := fun b F hw4 => by
      rcases h with ⟨hb, rfl, r⟩ | ⟨z, _⟩
      · refine ⟨v, .non, t, rfl, ha, fun _ => r, fun n e hn => ?_⟩
        rw [hno n e hn] at hb
        cases hb
      · exact absurd z hw4
    have yes : ∀ k : Nat, decide (V.int (way : Int) = V.int (k : Int)) = true → way = k := fun k z => Int.ofNat.inj (V.int.inj (of_decide_eq_true z))
    have no : ∀ k : Nat, decide (V.int (way : Int) = V.int (k : Int)) = false → way ≠ k := fun k z e => by
      rw [e] at z
      exact of_decide_eq_false z rfl
    refine ⟨.int way, rfl, rfl, _, rfl, ite_bool (fun c => ⟨v, rfl, u, rfl, two _ ?_⟩) (fun c => ?_)⟩
    · have := yes 0 c
      omega
    have c0 := no 0 c
    refine ⟨.int way, rfl, rfl, _, rfl, ite_bool (fun c => ⟨v, rfl, u, rfl, two _ ?_⟩) (fun c => ?_)⟩
    · have := yes 1 c
      omega
    have c1 := no 1 c
    refine ⟨.int way, rfl, rfl, _, rfl, ite_bool (fun c => ⟨v, rfl, u, rfl, two _ ?_⟩) (fun c => ?_)⟩
    · have := yes 2 c
      omega
    have c2 := no 2 c
    refine ⟨.int way, rfl, rfl, _, rfl, ite_bool (fun c => ⟨v, rfl, u, rfl, two _ ?_⟩) (fun c => ?_)⟩
    · have := yes 3 c
      omega
    have c3 := no 3 c
    refine ⟨.int way, rfl, rfl, _, rfl, ?_⟩
    exact ite_bool (fun _ => ⟨v, rfl, u, rfl, reach _ _ (by omega)⟩) (fun _ => ⟨v, rfl, u, rfl, reach _ _ (by omega)⟩)
end
end K19

/-! a try with two clauses that both name the error -/
namespace K19
open PySem PySem.Spec PyProof.Rows L2
/-- the ends behind a clause: its name is gone -/
def gone (i : Nat) (D : Ends) : Ends := { nx := fun σ' H' => D.nx (σ'.set i none) H', rt := D.rt, bk := fun σ' H' => D.bk (σ'.set i none) H', ct := fun σ' H' => D.ct (σ'.set i none) H' }
abbrev Sui := Addr → Value → Option Addr → TS
def wTwo (K : PySem.W.Frag) (i : Nat) (c1 c2 : Value) (t1 t2 : Sui) (Wout : WX) (D : Ends) : WX := fun cls d σ H =>
  ∃ b, PySem.W.exmOne K cls c1 = some b ∧ (b = true → ∀ a, H a = none → t1 a cls d (gone i D) (σ.set i (some (.ref a))) H) ∧
    (b = false → ∃ b2, PySem.W.exmOne K cls c2 = some b2 ∧ (b2 = true → ∀ a, H a = none → t2 a cls d (gone i D) (σ.set i (some (.ref a))) H) ∧ (b2 = false → Wout cls d σ H))
section
variable {X : Cx} {x1 x2 n : Str} {c1 c2 : Value} {i : Nat} {body su1 su2 : List Stmt} {b1 b2 : Stmt} {np1 np2 pos pos1 pos2 : Pos} {tb : WX → TS} {t1 t2 : Sui} {Wout : WX}
theorem ps_try_two (hs : X.stack = X.env :: X.outer) (hf : X.env.frame = some X.env.locals) (hN : X.N.Nodup) (hi : X.N[i]? = some n) (hln : X.env.kindOf n = some .local) (hc1 : Names X x1 c1) (hc2 : Names X x2 c2) (tk : Takes X Wout)
    (hb : ∀ (W : WX) (pn : List (Addr × Obj)) (xe : Value → Shared → Prop), Takes (X.tr pn xe) W → PassesOwn (model X.prog X.w) X.A X.env xe → PSs (X.tr pn xe) body (tb W))
    (hs1 : ∀ (a : Addr) (oe : Obj) (cls : Value) (d : Option Addr) (pn : List (Addr × Obj)), Zc cls d oe → (∃ vs, oe.data = .fields vs) → PSs (X.suite a ((a, oe) :: pn)) (b1 :: su1) (t1 a cls d))
    (hs2 : ∀ (a : Addr) (oe : Obj) (cls : Value) (d : Option Addr) (pn : List (Addr × Obj)), Zc cls d oe → (∃ vs, oe.data = .fields vs) → PSs (X.suite a ((a, oe) :: pn)) (b2 :: su2) (t2 a cls d)) :
    PS X (.Try body [.ExceptHandler (some (.Name x1 np1)) (some n) (b1 :: su1) pos1, .ExceptHandler (some (.Name x2 np2)) (some n) (b2 :: su2) pos2] [] [] pos) (fun D σ H => tb (wTwo X.K i c1 c2 t1 t2 Wout D) D σ H) := by
  refine ⟨fun pins s σ H D I h => wpAny_Try_except ?_⟩
  have ok := I.ok
  have hloc : Loc X.env.scope n := .inl hln
  have hfr : X.A.frames = some (X.env :: X.outer) := hs ▸ ok.frames
  refine wpAny_mono ((hb (wTwo X.K i c1 c2 t1 t2 Wout D) (X.pn ++ pins) (fun e s₁ => wpAny (model X.prog X.w) X.A (noteFrame e X.env) (fun _ s₂ => wpAny (model X.prog X.w) X.A (setFlight e none) (fun _ s₃ =>
      wpAny (model X.prog X.w) X.A (handleBy e X.env [.ExceptHandler (some (.Name x1 np1)) (some n) (b1 :: su1) pos1, .ExceptHandler (some (.Name x2 np2)) (some n) (b2 :: su2) pos2]) (SP X pins D) X.xe s₃) X.xe s₂) X.xe s₁)
    (fun u s' xx => ?thrown) PassesOwn.looking).run [] s σ H D (I.toTry _) h) (fun f s1 hsp => ?through) (fun e s1 he => he)
  case through =>
    cases f with
    | next => exact let ⟨σ', H', J', q⟩ := hsp; wpAny_execs_nil ⟨σ', H', J'.ofTry ok, q⟩
    | brk => exact let ⟨σ', H', J', q⟩ := hsp; ⟨σ', H', J'.ofTry ok, q⟩
    | cont => exact let ⟨σ', H', J', q⟩ := hsp; ⟨σ', H', J'.ofTry ok, q⟩
    | ret u => exact let ⟨v, σ', H', J', r, q⟩ := hsp; ⟨v, σ', H', J'.ofTry ok, r, q⟩
  case thrown =>
    obtain ⟨a, G, sI, pins', σ', H', cls, d, rfl, J', nb, lo, sky, na, os, ag, y1, e1, yes1, no1⟩ := xx
    have J : Inv X pins σ' H' sI := J'.ofTry ok
    have sky' : Sky G (X.env :: X.outer) a (Zc cls d) X.env.locals s'.heap := hs ▸ sky
    refine show wpAny (model X.prog X.w) X.A (noteFrame (.ref a) X.env) _ _ _ from Sky.land Zc.steady hfr hf sky' fun h3 fl3 up3 => ?_
    have J3 : Inv X pins σ' H' { s' with heap := h3 } := J.landed nb fl3.1 (lo.trans up3) os ag
    obtain ⟨oe3, vs3, he3, hz3, hd3⟩ := fl3.there
    have nfr : a ∉ frs (X.env :: X.outer) := fun hm => by
      obtain ⟨_, o', e', hnf⟩ := fl3.2.2.1.mem hm
      rw [he3] at e'
      cases e'
      exact hnf _ hd3
    have nL : a ≠ X.env.locals := fun z => nfr (z ▸ List.mem_filterMap.mpr ⟨X.env, List.mem_cons_self, hf⟩)
    have nF : a ∉ X.fs := fun hm => by
      obtain ⟨e, he, q⟩ := List.mem_filterMap.mp hm
      exact nfr (List.mem_filterMap.mpr ⟨e, .tail _ he, q⟩)
    have S3 := J3.suite he3 hd3 na nL nF
    have LT : PySem.W.Looks (model X.prog X.w) h3 (typeOf (.ref a)) cls := fun A Q E s k q => wpAny_typeOf_ref (k _ _ he3) (hz3.1 ▸ q)
    -- one clause, whatever stands behind it
    have clause : ∀ {x : Str} {c : Value} {ts : Sui} {b₀ : Stmt} {su : List Stmt} {np ps : Pos} {more : List ExceptHandler} {y : Bool}, Names X x c →
        (∀ (a : Addr) (oe : Obj) (cls : Value) (d : Option Addr) (pn : List (Addr × Obj)), Zc cls d oe → (∃ vs, oe.data = .fields vs) → PSs (X.suite a ((a, oe) :: pn)) (b₀ :: su) (ts a cls d)) →
        PySem.W.exmOne X.K cls c = some y → (y = true → ts a cls d (gone i D) (σ'.set i (some (.ref a))) H') → (y = false → wpAny (model X.prog X.w) X.A (handleBy (.ref a) X.env more) (SP X pins D) X.xe { s' with heap := h3 }) →
        wpAny (model X.prog X.w) X.A (handleBy (.ref a) X.env (.ExceptHandler (some (.Name x np)) (some n) (b₀ :: su) ps :: more)) (SP X pins D) X.xe { s' with heap := h3 } := by
      intro x c ts b₀ su np ps more y hc hsu ey yes no
      refine wpAny_handleBy_cons (codeAny_handlers_test ?_) (fun q => nomatch q)
      have LM := PySem.W.exm_one (M := model X.prog X.w) (J3.kIn) LT ey
      have test : ∀ {Q E : Value → Shared → Prop}, Q c { s' with heap := h3 } → wpAny (model X.prog X.w) (X.A.mark (some (.ref a))) (eval (.Name x np) X.env) Q E { s' with heap := h3 } := fun {Q E} q => by
        obtain ⟨hg, hdbg, hm | ⟨hm, hv, hnn⟩⟩ := hc
        · exact ld_glob (X := X.suite a ((a, oe3) :: (X.pn ++ pins))) S3 hg hm q hdbg
        · exact ld_blt (X := X.suite a ((a, oe3) :: (X.pn ++ pins))) S3 hg hm hv q hnn hdbg
      refine test (LM.here ?_)
      cases y with
      | false => exact show wpAny _ X.A (handleBy (.ref a) X.env more) _ _ _ from no rfl
      | true =>
        refine codeAny_handlers_suite_as (HandSPX.lands_againZ fl3 fun h4 fl4 up4 => ?_)
        have J4 : Inv X pins σ' H' { s' with heap := h4 } := J.landed nb fl4.1 ((lo.trans up3).trans up4) os ag
        obtain ⟨oe4, vs4, he4, hz4, hd4⟩ := fl4.there
        have S4 := J4.suite he4 hd4 na nL nF
        refine store_ok (X := X.suite a ((a, oe4) :: (X.pn ++ pins))) (v := .ref a) S4 hN hi hloc rfl (fun s5 S5 => ?_) (.inr hln)
        refine wpAny_mono ((hsu a oe4 cls d (X.pn ++ pins) hz4 ⟨_, hd4⟩).run [] s5 _ H' _ S5 (yes rfl)) (fun f s6 hsp => ?_) (fun _ _ z => False.elim z)
        have fin : ∀ {σ6 : L2.St} {H6 : Hp} {Q : Shared → Prop}, Inv (X.suite a ((a, oe4) :: (X.pn ++ pins))) [] σ6 H6 s6 → (∀ s7, Inv X pins (σ6.set i none) H6 s7 → Q s7) →
            wpAny (model X.prog X.w) X.A (do bindName X.env n .none; unbindBehindTheSuite X.env n ps) (fun _ s7 => Q s7) X.xe s6 := fun S6 hq => gone_ok (S6.unsuite ok) hN hi hln hq
        cases f with
        | next => exact let ⟨σ6, H6, S6, q6⟩ := hsp; fin S6 fun s7 J7 => ⟨_, _, J7, q6⟩
        | brk => exact let ⟨σ6, H6, S6, q6⟩ := hsp; fin S6 fun s7 J7 => ⟨_, _, J7, q6⟩
        | cont => exact let ⟨σ6, H6, S6, q6⟩ := hsp; fin S6 fun s7 J7 => ⟨_, _, J7, q6⟩
        | ret u => exact let ⟨v6, σ6, H6, S6, r6, q6⟩ := hsp; fin S6 fun s7 J7 => ⟨_, _, _, J7, r6, q6⟩
    refine clause hc1 hs1 e1 (fun z => yes1 z a na) fun z1 => ?_
    obtain ⟨y2, e2, yes2, no2⟩ := no1 z1
    refine clause hc2 hs2 e2 (fun z => yes2 z a na) fun z2 => wpAny_handleBy_nil ?_
    obtain ⟨k1, k2, k3, oe, vs, T, oT, ts', he, hz, hd, hv, hr⟩ := id fl3
    unfold PySem.passOn
    refine wpAny_bind (wpAny_field he hd hv ?_)
    rw [if_neg (show ¬ ((Value.ref T == Value.none) = true) by simp)]
    have fin : wpAny (model X.prog X.w) X.A (setFlight (.ref a) X.env.frame) (fun _ s4 => wpAny (model X.prog X.w) X.A (throw (.ref a) : Sem Flow) (SP X pins D) X.xe s4) X.xe { s' with heap := h3 } := by
      rw [hf]
      exact HandSPX.setFlight_upZ fl3 fun h4 hh4 up4 => wpAny_throw (tk _ _ ⟨a, G, sI, pins, σ', H', cls, d, rfl, J, nb, (lo.trans up3).trans up4, .inr (.inr (hs ▸ hh4)), na, os, ag, no2 z2⟩)
    first | exact wpAny_bind (wpAny_pure (wpAny_bind fin)) | exact wpAny_bind fin
end
end K19

/-! _law_heard, called with a lambda -/
namespace K19
open PySem PySem.Spec PyProof.Rows L2 LamX
abbrev sHeard : Stmt := topS 30
abbrev sRef : Stmt := topS 31
abbrev nHeard : List Str := ["_law_call", "e"]
theorem scHeard : FnScope nHeard ["_law_call"] (defScope sHeard) := ⟨rfl, rfl, rfl, by decide +kernel, rfl, by decide +kernel, by decide +kernel⟩
/-- the two classes of errors, as an except clause and a field's reader know them -/
structure ExcTxt (K : PySem.W.Frag) (mg : Str → Option Value) (CC CM : Addr) : Prop where
  gC : mg "NoCount" = some (.ref CC)
  gM : mg "NoMoment" = some (.ref CM)
  xC : XfC K CC
  xM : XfC K CM
  nC : PySem.W.findIn K (.ref CC) "told" = some none
  nM : PySem.W.findIn K (.ref CM) "told" = some none
  cc : PySem.W.exmOne K (.ref CC) (.ref CC) = some true
  mc : PySem.W.exmOne K (.ref CM) (.ref CC) = some false
  mm : PySem.W.exmOne K (.ref CM) (.ref CM) = some true
/-- what the two clauses wish of an error -/
def EH (CC CM : Addr) (Q : VK) : XK := fun cls d H' => ∃ (dd : Addr) (v : V), d = some dd ∧ H' dd = some (.xd [(("told" : Str), v)]) ∧
  ((cls = .ref CC ∧ ∀ p, H' p = none → Q (.ref p) (upd H' p (.tup [.str "count", v]))) ∨ (cls = .ref CM ∧ ∀ p, H' p = none → Q (.ref p) (upd H' p (.tup [.str "moment", v]))))
/-- the call is an error, and it is told -/
def TTold2 (CC CM : Addr) : (XK → Hp → VK → Prop) → Hp → VK → Prop := fun tl H Q => ∀ R : VK, tl (EH CC CM Q) H R
theorem pss_len {X : Cx} {b : List Stmt} {t : TS} {n : Nat} (hn : X.N.length = n) (h : PSs X b t) : PSs X b (fun D σ H => σ.length = n → t D σ H) := ⟨fun pins s σ H D I q => h.run pins s σ H D I (q (I.len.trans hn))⟩
theorem set_one {σ : L2.St} {x : Option V} (h : (σ.set 1 x).length = 2) : (σ.set 1 x)[1]? = some x := List.getElem?_set_self (by rw [List.length_set] at h; omega)
theorem heard_gives {X : Cx} {g CC CM : Addr} {cdg : Value} {q : Str} (T : ExcTxt X.K X.mg CC CM) : GivesTo X nHeard "_law_heard" (defScope sHeard) g cdg (defBody sHeard) "_law_call" q (TTold2 CC CM) := by
  intro f c' s H Q tl act hc h
  have lkv : ∀ v : V, List.lookup ("told" : Str) [(("told" : Str), v)] = some v := fun v => by simp [List.lookup]
  refine ⟨_, pss_one (ps_try_two (X := (cxOf C8.CX0 X.prog X.w X.K X.mg X.base nHeard "_law_heard" (defScope sHeard) g cdg X.A X.stack s H C8.E0).nox) (i := 1) (c1 := .ref CC) (c2 := .ref CM)
      (tb := fun W D σ H => ∃ Ech : XK, (∀ cls d σ' H', Ech cls d H' → W cls d σ' H') ∧ σ[0]? = some (some (.ref f)) ∧ H c' = some (CodeO c' q) ∧ ∀ R : VK, tl Ech H R)
      rfl rfl scHeard.nd rfl rfl ⟨rfl, by decide, .inl T.gC⟩ ⟨rfl, by decide, .inl T.gM⟩ L2.takes0 (fun W pn xe tk _ => ?_)
      (fun a oe cls d pn hz hf => pss_len (n := 2) rfl (pss_one (ps_ret (pe_tup (pa_cons pe_str (pa_cons (pe_xf T.xC T.nC hz hf (pv 1)) pa_nil))))))
      (fun a oe cls d pn hz hf => pss_len (n := 2) rfl (pss_one (ps_ret (pe_tup (pa_cons pe_str (pa_cons (pe_xf T.xM T.nM hz hf (pv 1)) pa_nil))))))), ?_⟩
  · refine ⟨fun pins s' σ H' D I h' => ?_⟩
    obtain ⟨Ech, hW, h1, h2, h3⟩ := h'
    exact (pss_one (ps_ret (pe_tup (pa_cons pe_str (pa_cons (act W pn xe Ech _ _ tk hW) pa_nil))))).run pins s' σ H' D I ⟨h1, h2, h3 _⟩
  · refine ⟨EH CC CM Q, fun cls d σ' H' z => ?_, rfl, hc, h⟩
    obtain ⟨dd, v, rfl, hd, ⟨rfl, k⟩ | ⟨rfl, k⟩⟩ := z
    · refine ⟨true, T.cc, fun _ a na hl => ?_, fun z => Bool.noConfusion z⟩
      exact ⟨.ref a, set_one hl, rfl, rfl, dd, _, v, rfl, hd, lkv v, by show 2 ≤ sizeLine; decide, fun p np => k p np⟩
    · refine ⟨false, T.mc, fun z => Bool.noConfusion z, fun _ => ⟨true, T.mm, fun _ a na hl => ?_, fun z => Bool.noConfusion z⟩⟩
      exact ⟨.ref a, set_one hl, rfl, rfl, dd, _, v, rfl, hd, lkv v, by show 2 ≤ sizeLine; decide, fun p np => k p np⟩
end K19

/-! _law_refusals -/
namespace K19
open PySem PySem.Spec PyProof.Rows L2 LamX
abbrev nRef : List Str := ["_law_source", "_law_last", "_law_less", "_law_none", "_law_odd", "_law_way", "_law_wrong"]
theorem scRef : FnScope nRef ["_law_source", "_law_last"] (defScope sRef) := ⟨rfl, rfl, rfl, by decide +kernel, rfl, by decide +kernel, by decide +kernel⟩
/-- the lambdas' name -/
def qL : Str := (("_law_refusals" : Str) ++ ".<locals>.") ++ "<lambda>"
/-- all but the pool at src and the tables stays -/
def Kb (src : Addr) (H H' : Hp) : Prop := ∀ b o, b ≠ src → H b = some o → (∀ ps, o ≠ .tbl ps) → H' b = some o
theorem Kb.ext {src : Addr} {H H1 H2 : Hp} (a : Kb src H H1) (b : ExtN H1 H2) : Kb src H H2 := fun c o h e n => b c o (a c o h e n) n
theorem Kb.but {src : Addr} {H H1 H2 : Hp} (a : Kb src H H1) (b : But src H1 H2) : Kb src H H2 := fun c o h e n => (b c h).trans (a c o h e n)
theorem Kb.refl {src : Addr} {H : Hp} : Kb src H H := fun _ _ _ e _ => e
theorem Src.ext {src : Addr} {H H1 : Hp} (s : Src H src) (e : ExtN H H1) : Src H1 src := by
  obtain ⟨x, y, h, r⟩ := s
  exact ⟨x, y, e _ _ h (fun ps z => nomatch z), r⟩
theorem tabs_but {T : List (Addr × Str)} {src : Addr} {H H1 : Hp} (t : Tabs T H) (s : Src H src) (b : But src H H1) : Tabs T H1 := fun p hp => by
  obtain ⟨ps, h1, h2, h3⟩ := t p hp
  obtain ⟨x, y, h, _⟩ := s
  refine ⟨ps, (b _ (ne_of h1 h (fun z => nomatch z))).trans h1, h2, fun pos cv hcv => ?_⟩
  obtain ⟨c, e1, e2⟩ := h3 pos cv hcv
  refine ⟨c, e1, (b _ (ne_of e2 h (fun z => ?_))).trans e2⟩
  unfold CodeO at z
  cases z
/-! ### things that are told -/
def Dat (K : PySem.W.Frag) (H : Hp) (v : V) : Prop := ∃ d, Dp K H v d ∧ SeqAt.shaped (.tuple [.str "count", d]) = true ∧ SeqAt.shaped (.tuple [.str "moment", d]) = true ∧ PyData.eqv d d = true
structure Thing (K : PySem.W.Frag) (H : Hp) (v : V) : Prop where
  arg : ∀ H', ExtN H H' → ∃ t, Arg H' v t
  dat : ∀ H', ExtN H H' → Dat K H' v
theorem Thing.ext {K : PySem.W.Frag} {H H1 : Hp} {v : V} (t : Thing K H v) (e : ExtN H H1) : Thing K H1 v := ⟨fun H' e' => t.arg H' (e.trans e'), fun H' e' => t.dat H' (e.trans e')⟩
section
variable {K : PySem.W.Frag} {H : Hp}
theorem shaped_w (w : Str) (d : PyData) (hw : PyData.canLay0 (.str w) = true) (hd : PyData.canLay0 d = true) (hp : PyData.depth d ≤ 1) : SeqAt.shaped (.tuple [.str w, d]) = true := by
  unfold SeqAt.shaped
  rw [Bool.and_eq_true, decide_eq_true_eq]
  simp only [PyData.canLay0, PyData.canLayAll0, PyData.depth, PyData.depthAll, Bool.and_true, Bool.and_eq_true] at hw hd ⊢
  refine ⟨⟨hw, hd⟩, ?_⟩
  omega
theorem thing_of {v : V} {d : PyData} (t : ∀ H', ExtN H H' → ∃ t, Arg H' v t) (h : ∀ H', ExtN H H' → Dp K H' v d) (hd : PyData.canLay0 d = true) (hp : PyData.depth d ≤ 1) (he : PyData.eqv d d = true) : Thing K H v :=
  ⟨t, fun H' e => ⟨d, h H' e, shaped_w _ _ (by decide +kernel) hd hp, shaped_w _ _ (by decide +kernel) hd hp, he⟩⟩
theorem thing_int (i : Int) : Thing K H (.int i) := thing_of (d := .int i) (fun _ _ => ⟨_, rfl⟩) (fun _ _ => .int i) (by simp [PyData.canLay0]) (by simp [PyData.depth]) (by simp [PyData.eqv])
theorem thing_non : Thing K H .non := thing_of (d := .none) (fun _ _ => ⟨_, rfl⟩) (fun _ _ => .non) (by simp [PyData.canLay0]) (by simp [PyData.depth]) (by simp [PyData.eqv])
theorem thing_bl (b : Bool) : Thing K H (.bl b) := thing_of (d := .bool b) (fun _ _ => ⟨_, rfl⟩) (fun _ _ => .bl b) (by simp [PyData.canLay0]) (by simp [PyData.depth]) (by simp [PyData.eqv])
theorem thing_str1 : Thing K H (.str "1") := thing_of (d := .str "1") (fun _ _ => ⟨_, rfl⟩) (fun _ _ => .str "1") (by decide +kernel) (by simp [PyData.depth]) (by simp [PyData.eqv])
theorem thing_tup {a : Addr} (h : H a = some (.tup [.int 1])) : Thing K H (.ref a) := by
  have k : ∀ H', ExtN H H' → H' a = some (.tup [.int 1]) := fun H' e => e _ _ h (fun ps z => nomatch z)
  refine thing_of (d := .tuple (dInts [1])) (fun H' e => ⟨"tuple", .inr ⟨rfl, _, k H' e⟩⟩) (fun H' e => dp_tup (l := [1]) (k H' e)) ?_ ?_ (eqv_tup [1])
  · simp only [PyData.canLay0]
    exact lay_ints [1]
  · simp only [PyData.depth, dInts, PyData.depthAll, List.map_cons, List.map_nil]
    decide
theorem told_ne {w : Str} {v : V} {p p2 : Addr} {Q : VK} (hw : w = "count" ∨ w = "moment") (g : Dat K H v) (h1 : H p = some (.tup [.str w, v])) (h2 : H p2 = some (.tup [.str w, v])) (q : Q (.bl false) H) : rNeD K (.ref p) (.ref p2) H Q := by
  obtain ⟨d, hd, s1, s2, e⟩ := g
  have sh : SeqAt.shaped (.tuple [.str w, d]) = true := by
    rcases hw with rfl | rfl
    · exact s1
    · exact s2
  have dp : ∀ p, H p = some (.tup [.str w, v]) → Dp K H (.ref p) (.tuple [.str w, d]) := fun p h => .tup (.inl (.inl h)) (.cons (.str w) (.cons hd .nil))
  refine ⟨_, _, dp p h1, dp p2 h2, sh, sh, ?_⟩
  rw [show PyData.eqv (.tuple [.str w, d]) (.tuple [.str w, d]) = true by simp [PyData.eqv, PyData.eqvAll, e]]
  exact q
theorem told_eq {w : Str} {v : V} {p p2 : Addr} {Q : VK} (hw : w = "count" ∨ w = "moment") (g : Dat K H v) (h1 : H p = some (.tup [.str w, v])) (h2 : H p2 = some (.tup [.str w, v])) (q : Q (.bl true) H) : rEqD K (.ref p) (.ref p2) H Q := by
  obtain ⟨d, hd, s1, s2, e⟩ := g
  have sh : SeqAt.shaped (.tuple [.str w, d]) = true := by
    rcases hw with rfl | rfl
    · exact s1
    · exact s2
  have dp : ∀ p, H p = some (.tup [.str w, v]) → Dp K H (.ref p) (.tuple [.str w, d]) := fun p h => .tup (.inl (.inl h)) (.cons (.str w) (.cons hd .nil))
  refine ⟨_, _, dp p h1, dp p2 h2, sh, sh, ?_⟩
  rw [show PyData.eqv (.tuple [.str w, d]) (.tuple [.str w, d]) = true by simp [PyData.eqv, PyData.eqvAll, e]]
  exact q
end
/-- what a lambda's call tells -/
theorem heard_count {P CC CM : Addr} {t : XK → TE} {σ : L2.St} {H : Hp} {Q : VK} {v : V} (hT : Tabs [(P, qL)] H) (w : ∀ H1 E, ExtN H H1 → Raised CC v H1 E → ∀ R, t E σ H1 R)
    (q : ∀ p H2, ExtN H H2 → Tabs [(P, qL)] H2 → H2 p = some (.tup [.str "count", v]) → Q (.ref p) H2) : tLam [(P, qL)] (TTold2 CC CM) t σ H Q :=
  ⟨hT, fun H1 e1 T1 R => w H1 _ e1 (fun d H' s' hd => ⟨d, v, rfl, hd, .inl ⟨rfl, fun p np => q p _ (e1.trans (ExtN.of (sameU s' np))) (T1.ext (sameU s' np)) upd_same⟩⟩) R⟩
theorem heard_moment {P CC CM : Addr} {t : XK → TE} {σ : L2.St} {H : Hp} {Q : VK} {v : V} (hT : Tabs [(P, qL)] H) (w : ∀ H1 E, ExtN H H1 → Raised CM v H1 E → ∀ R, t E σ H1 R)
    (q : ∀ p H2, ExtN H H2 → Tabs [(P, qL)] H2 → H2 p = some (.tup [.str "moment", v]) → Q (.ref p) H2) : tLam [(P, qL)] (TTold2 CC CM) t σ H Q :=
  ⟨hT, fun H1 e1 T1 R => w H1 _ e1 (fun d H' s' hd => ⟨d, v, rfl, hd, .inr ⟨rfl, fun p np => q p _ (e1.trans (ExtN.of (sameU s' np))) (T1.ext (sameU s' np)) upd_same⟩⟩) R⟩
/-- behind it: != ('..', v) is False -/
theorem after_ne {K : PySem.W.Frag} {P : Addr} {w : Str} {v : V} {Q : Bool → Hp → Prop} {p : Addr} {H H2 : Hp} (hw : w = "count" ∨ w = "moment") (g : Thing K H v) (e2 : ExtN H H2) (T2 : Tabs [(P, qL)] H2) (hp : H2 p = some (.tup [.str w, v]))
    (q : ∀ H3, ExtN H H3 → Tabs [(P, qL)] H3 → Q false H3) : [V.str w, v].length ≤ sizeLine ∧ ∀ p2, H2 p2 = none → rNeD K (.ref p) (.ref p2) (upd H2 p2 (.tup [.str w, v])) fun z H' => ∃ k, z = .bl k ∧ Q k H' := by
  refine ⟨by show 2 ≤ sizeLine; decide, fun p2 np => ?_⟩
  have s := same_upd (o := .tup [.str w, v]) np
  exact told_ne hw (g.dat _ (e2.trans (ExtN.of s))) (s _ _ hp) upd_same ⟨_, rfl, q _ (e2.trans (ExtN.of s)) (T2.ext s)⟩
end K19

/-! _law_refusals: its body -/
namespace K19
open PySem PySem.Spec PyProof.Rows L2 LamX
section
variable {X : Cx} {CC CM g c P : Addr} {fd : FuncData} {k : Nat} {params : Arguments} {body : Expr} {scope : Scope} {t : XK → TE} {p lpos pos : Pos}
theorem plam (T : ExcTxt X.K X.mg CC CM) (D : Df X.K X.mg "_law_heard" sHeard ["_law_call"] g fd) (TB : TabB X.base X.mg c P) (hcode : X.env.code = .ref c) (hq : X.env.qual ++ "<lambda>" = qL) (hr : Room (k + 2) X.A) (L : LamS X.env.scope scope)
    (hbody : ∀ (A : Around) (outer : List Env) (s : Shared) (H : Hp) (E : XK) (f c' : Addr), Room k (A.deeper (lamEnv X scope s.heap.objs.size f c')) → PE (lamCx X A outer s H E scope f c') body (t E))
    (hg : Gl X "_law_heard" := by rfl) (hdef : defaultsOf params X.env = ([], []) := by rfl)
    (hbind : ∀ (q : Str) (cl : List (Str × Addr)) (pm cv ctv : Value), bindArgs (PySem.W.kla_fn "<lambda>" q params body scope cl pm cv ctv) ⟨[], []⟩ = pure [] := by intro _ _ _ _ _; rfl) :
    PE X (.Call (.Name "_law_heard" p) [.Lambda params body scope lpos] [] pos) (tLam [(P, qL)] (TTold2 CC CM) t) := by
  obtain ⟨oc, od, kV, doc, pm, an, cdv, ct, osl, rfl, lk, hcd⟩ := D.F.ex
  refine pe_lamcall (T := [(P, qL)]) (TT := TTold2 CC CM) (a := "_law_call") (Ng := nHeard) hg D.g D.F.kp lk hcd D.b scHeard rfl (.inl rfl) (heard_gives T) TB hcode (by rw [hq]; exact List.mem_cons_self ..) (fun p hp _ => ?_) hr L hdef hbind hbody
  rcases List.mem_cons.mp hp with rfl | hp
  · exact hq.symm
  · cases hp
end
/-- behind some steps of the refusals -/
structure Stg (P src : Addr) (H0 H : Hp) : Prop where
  s : Src H src
  k : Kb src H0 H
  t : Tabs [(P, qL)] H
theorem Stg.ext {P src : Addr} {H0 H1 H2 : Hp} (a : Stg P src H0 H1) (e : ExtN H1 H2) (t : Tabs [(P, qL)] H2) : Stg P src H0 H2 := ⟨a.s.ext e, a.k.ext e, t⟩
theorem Stg.draw {P src : Addr} {H0 H1 H2 H3 : Hp} (a : Stg P src H0 H1) (s : Same H1 H2) (h : Src H3 src) (b : But src H2 H3) : Stg P src H0 H3 :=
  ⟨h, (a.k.ext (ExtN.of s)).but b, tabs_but (a.t.ext s) (a.s.ext (ExtN.of s)) b⟩
theorem src_ne {src L : Addr} {H : Hp} (s : Src H src) (n : H L = none) : L ≠ src := fun z => by
  obtain ⟨x, y, h, _⟩ := s
  rw [z, h] at n
  cases n
section
variable {K : PySem.W.Frag} {H : Hp}
theorem odd_thing {v : V} (h : v ∈ [V.int (-1), V.int 601, V.non, V.bl true, V.str "1"]) : Thing K H v ∧ isRange v 0 600 = false := by
  simp only [List.mem_cons, List.not_mem_nil, or_false] at h
  rcases h with rfl | rfl | rfl | rfl | rfl
  · exact ⟨thing_int _, by decide⟩
  · exact ⟨thing_int _, by decide⟩
  · exact ⟨thing_non, rfl⟩
  · exact ⟨thing_bl _, rfl⟩
  · exact ⟨thing_str1, rfl⟩
theorem less_thing {v : V} {tp : Addr} (ht : H tp = some (.tup [.int 1])) (h : v ∈ [V.int 0, V.int (-1), V.non, V.bl true, V.ref tp]) : Thing K H v ∧ isMany v = false := by
  simp only [List.mem_cons, List.not_mem_nil, or_false] at h
  rcases h with rfl | rfl | rfl | rfl | rfl
  · exact ⟨thing_int _, by decide⟩
  · exact ⟨thing_int _, by decide⟩
  · exact ⟨thing_non, rfl⟩
  · exact ⟨thing_bl _, rfl⟩
  · exact ⟨thing_tup ht, rfl⟩
theorem wrong_thing {v : V} {n : Nat} (h : v ∈ [V.int ((n : Int) + 1), V.int (-1), V.bl true, V.non, V.int 0]) : Thing K H v ∧ ∀ b, wrong1 n b 0 v = true := by
  simp only [List.mem_cons, List.not_mem_nil, or_false] at h
  rcases h with rfl | rfl | rfl | rfl | rfl
  · refine ⟨thing_int _, fun b => ?_⟩
    show (!(decide ((0 : Int) ≤ (n : Int) + 1) && decide ((n : Int) + 1 ≤ (n : Int))) || _) = true
    rw [decide_eq_false (show ¬ (n : Int) + 1 ≤ (n : Int) by omega), Bool.and_false]
    rfl
  · exact ⟨thing_int _, fun b => rfl⟩
  · exact ⟨thing_bl _, fun b => rfl⟩
  · exact ⟨thing_non, fun b => rfl⟩
  · refine ⟨thing_int _, fun b => ?_⟩
    show (!(decide ((0 : Int) ≤ 0) && decide ((0 : Int) ≤ (n : Int))) || (decide ((0 : Int) ≤ 0) || (b && (decide ((0 : Int) = -1) && !decide ((0 : Int) = 0))))) = true
    rw [decide_eq_true (show (0 : Int) ≤ 0 by decide), Bool.true_or, Bool.or_true]
/-- no moments -/
theorem none_moms {x : V} {t0 l0 : Addr} {L : Int} {b : Bool} {CM : Addr} {E : XK} {good : List Int → Prop} (h1 : H t0 = some (.tup [])) (h2 : H l0 = some (.lst [])) (h : x ∈ [V.non, V.ref t0, V.ref l0, V.int 0, V.str "0"]) (r : Raised CM .non H E) :
    Moms L b CM x H E good := by
  simp only [List.mem_cons, List.not_mem_nil, or_false] at h
  rcases h with rfl | rfl | rfl | rfl | rfl
  · exact .inl ⟨"NoneType", rfl, rfl, r⟩
  · exact .inr ⟨t0, false, [], rfl, h1, Nat.zero_le _, fun _ => r, fun z => absurd rfl z⟩
  · exact .inr ⟨l0, true, [], rfl, h2, Nat.zero_le _, fun _ => r, fun z => absurd rfl z⟩
  · exact .inl ⟨"int", rfl, rfl, r⟩
  · exact .inl ⟨"str", rfl, rfl, r⟩
/-- 0 and a wrong one -/
theorem wrong_moms {v : V} {L : Addr} {n : Nat} {b : Bool} {CM : Addr} {E : XK} {good : List Int → Prop} (hL : H L = some (.lst [.int 0, v])) (ha : ∃ t, Arg H v t) (hw : wrong1 n b 0 v = true) (r : Raised CM v H E) : Moms n b CM (.ref L) H E good := by
  have w0 : wrong1 n b (-1) (.int 0) = false := by
    show (!(decide ((0 : Int) ≤ 0) && decide ((0 : Int) ≤ (n : Int))) || (decide ((0 : Int) ≤ -1) || (b && (decide ((-1 : Int) = -1) && !decide ((0 : Int) = 0))))) = false
    rw [decide_eq_true (show (0 : Int) ≤ (n : Int) from Int.natCast_nonneg n)]
    cases b <;> rfl
  have fb : firstBad n b (-1) [.int 0, v] = some v := by
    have e1 : firstBad n b (-1) [.int 0, v] = firstBad n b 0 [v] := if_neg (by rw [w0]; exact Bool.false_ne_true)
    rw [e1]
    exact if_pos hw
  refine .inr ⟨L, true, [.int 0, v], rfl, hL, by show 2 ≤ 1000; decide, fun z => absurd z (List.cons_ne_nil _ _), fun _ => ⟨fun x hx => ?_, fun x hx => ?_, fun ns e hok hh => ?_⟩⟩
  · simp only [List.mem_cons, List.not_mem_nil, or_false] at hx
    rcases hx with rfl | rfl
    · exact ⟨_, rfl⟩
    · exact ha
  · rw [fb] at hx
    cases hx
    exact r
  · exfalso
    cases ns with
    | nil => cases e
    | cons a ns =>
      cases ns with
      | nil => cases e
      | cons c ns =>
        have e1 := List.cons.inj e
        have e2 := List.cons.inj e1.2
        have ea : (0 : Int) = a := V.int.inj e1.1
        rw [e2.1] at hw
        have h2 := hok.2.2.2
        have hw' : (!(decide (0 ≤ c) && decide (c ≤ (n : Int))) || (decide (c ≤ 0) || (b && (decide ((0 : Int) = -1) && !decide (c = 0))))) = true := hw
        rw [decide_eq_true h2.2.1, decide_eq_true h2.2.2.1, decide_eq_false (show ¬ c ≤ 0 by have := h2.1; omega)] at hw'
        cases b <;> cases hw'
/-- (1,) behind a moment above 0 -/
theorem one_moms {p : Addr} {n : Nat} {CM : Addr} {E : XK} {good : List Int → Prop} (hp : H p = some (.tup [.int 1])) (hn : 0 < n) (r : Raised CM (.int 1) H E) : Moms n true CM (.ref p) H E good := by
  have w1 : wrong1 n true (-1) (.int 1) = true := by
    show (!(decide ((0 : Int) ≤ 1) && decide ((1 : Int) ≤ (n : Int))) || (decide ((1 : Int) ≤ -1) || (true && (decide ((-1 : Int) = -1) && !decide ((1 : Int) = 0))))) = true
    rw [decide_eq_true (show (1 : Int) ≤ (n : Int) by omega)]
    rfl
  refine .inr ⟨p, false, [.int 1], rfl, hp, by show 1 ≤ 1000; decide, fun z => absurd z (List.cons_ne_nil _ _), fun _ => ⟨fun x hx => ?_, fun x hx => ?_, fun ns e hok hh => ?_⟩⟩
  · simp only [List.mem_cons, List.not_mem_nil, or_false] at hx
    rw [hx]
    exact ⟨_, rfl⟩
  · have e : firstBad n true (-1) [.int 1] = some (.int 1) := if_pos w1
    rw [e] at hx
    cases hx
    exact r
  · exfalso
    have h0 := hh rfl
    cases ns with
    | nil => cases e
    | cons a ns =>
      have e1 : (1 : Int) = a := V.int.inj (List.cons.inj e).1
      have e2 : a = 0 := Option.some.inj h0
      omega
end
def spRef (P : Addr) : Sp := fun vs H Q _ => ∃ (src : Addr) (n : Nat), vs = [.ref src, .int n] ∧ n ≤ 600 ∧ Src H src ∧ Tabs [(P, qL)] H ∧ ∀ H', Stg P src H H' → Q (.bl true) H'
end K19

/-! _law_refusals holds its promise -/
namespace K19
open PySem PySem.Spec PyProof.Rows L2 LamX
section
variable {w : World} {K : PySem.W.Frag} {mg : Str → Option Value} {base : Heap} {CC CM c P g fO fC fA fB : Addr} {fdg fdO fdC fdA fdB : FuncData}
theorem ok_ref {f : Addr} {oc : Value} {od : Option Addr} {kV doc pm : Value} {an : Option Addr} {ct : Value} {osl : Array (Option Value)} (B : Bt mg) (T : ExcTxt K mg CC CM) (TB : TabB base mg c P)
    (lk : K.lookup f = some ⟨oc, od, .func (PySem.W.fnOf "_law_refusals" "_law_refusals" (defArgs sRef) (defBody sRef) (defScope sRef) .none kV doc pm an (.ref c) ct), osl⟩) (hcd : PySem.W.codeIn K (.ref c) "_law_refusals" = true)
    (D : Df K mg "_law_heard" sHeard ["_law_call"] g fdg)
    (DO : Df K mg "_law_one" sOne ["_law_source", "_law_things"] fO fdO) (GO : FnOk theProg w K mg base CX0 2 fO fdO ["_law_source", "_law_things"] spOne)
    (DC : Df K mg "_law_called" sCalled ["_law_way", "_law_last", "_law_more"] fC fdC) (GC : FnOk theProg w K mg base (L2.CX theProg w) 6 fC fdC ["_law_way", "_law_last", "_law_more"] (spCalled CC))
    (DA : Df K mg "reach_on" sReachOn ["last", "moments"] fA fdA) (GA : FnOk theProg w K mg base (L2.CX theProg w) 4 fA fdA ["last", "moments"] (spReach true reachOn CC CM))
    (DB : Df K mg "reach_both" sReachBoth ["last", "moments"] fB fdB) (GB : FnOk theProg w K mg base (L2.CX theProg w) 4 fB fdB ["last", "moments"] (spReach false reachBoth CC CM)) :
    FnOk theProg w K mg base CX0 9 f (PySem.W.fnOf "_law_refusals" "_law_refusals" (defArgs sRef) (defBody sRef) (defScope sRef) .none kV doc pm an (.ref c) ct) ["_law_source", "_law_last"] (spRef P) := by
  refine fn_of lk hcd scRef (fun vs H Q E h => ?_) (fun A outer s H vs Q E hr h => ?_)
  · obtain ⟨src, n, rfl, _⟩ := h
    rfl
  obtain ⟨src, n, rfl, hn, hS, hT, q⟩ := h
  suffices hh : ∃ t, PSs (cxOf CX0 theProg w K mg base nRef "_law_refusals" (defScope sRef) f (.ref c) A outer s H E).nox (defBody sRef) t ∧ t { nx := fun _ H' => Q .non H', rt := Q } (L2.start nRef [.ref src, .int n]) H by
    obtain ⟨t, h1, h2⟩ := hh
    exact ⟨t, h1.nox, h2⟩
  refine ⟨_, pss_cons (ps_set (i := 4) scRef.nd rfl (.inr rfl) (pcall DO GO (hr.mono (by decide)) pass0 (pa_cons (pv 0) (pa_cons (pe_lst (pa_cons (pe_un un_neg pe_int) (pa_cons pe_int (pa_cons pe_non (pa_cons pe_bl (pa_cons pe_str pa_nil)))))) pa_nil))))
    (pss_cons (ps_for PassesOwn.never rfl (pi_range1 rfl B.range (pa_cons pe_int pa_nil)) (pg_name (i := 5) scRef.nd rfl (.inr rfl))
      (pss_one (ps_if (pt_cmpR (r := rNeD K) (op_neD (by exact hr.units)) (plam (P := P) (CC := CC) (CM := CM) T D TB rfl rfl hr (lamS_by (sc := defScope sRef) (by decide +kernel))
          (fun A outer s H E f c' hr' => pcall DC GC hr' (passes_call (takes_of rfl rfl rfl rfl) (fun _ _ _ _ h => h)) (pa_cons (pv 5) (pa_cons (pv 4) (pa_cons pe_non pa_nil))))) (pe_tup (pa_cons pe_str (pa_cons (pv 4) pa_nil))) (nomark _))
        (pss_one (ps_ret pe_bl)) pss_nil)))
    (pss_cons (ps_set (i := 2) scRef.nd rfl (.inr rfl) (pcall DO GO (hr.mono (by decide)) pass0 (pa_cons (pv 0) (pa_cons (pe_lst (pa_cons pe_int (pa_cons (pe_un un_neg pe_int) (pa_cons pe_non (pa_cons pe_bl (pa_cons (pe_tup (pa_cons pe_int pa_nil)) pa_nil)))))) pa_nil))))
    (pss_cons (ps_for PassesOwn.never rfl (pi_range1 rfl B.range (pa_cons pe_int pa_nil)) (pg_name (i := 5) scRef.nd rfl (.inr rfl))
      (pss_one (ps_if (pt_cmpR (r := rNeD K) (op_neD (by exact hr.units)) (plam (P := P) (CC := CC) (CM := CM) T D TB rfl rfl hr (lamS_by (sc := defScope sRef) (by decide +kernel))
          (fun A outer s H E f c' hr' => pcall DC GC hr' (passes_call (takes_of rfl rfl rfl rfl) (fun _ _ _ _ h => h)) (pa_cons (pv 5) (pa_cons (pv 1) (pa_cons (pv 2) pa_nil))))) (pe_tup (pa_cons pe_str (pa_cons (pv 2) pa_nil))) (nomark _))
        (pss_one (ps_ret pe_bl)) pss_nil)))
    (pss_cons (ps_for PassesOwn.never rfl (pi_list (pe_lst (pa_cons pe_non (pa_cons (pe_tup pa_nil) (pa_cons (pe_lst pa_nil) (pa_cons pe_int (pa_cons pe_str pa_nil))))))) (pg_name (i := 3) scRef.nd rfl (.inr rfl))
      (pss_cons (ps_if (pt_cmpR (r := rNeD K) (op_neD (by exact hr.units)) (plam (P := P) (CC := CC) (CM := CM) T D TB rfl rfl hr (lamS_by (sc := defScope sRef) (by decide +kernel))
          (fun A outer s H E f c' hr' => pcall DA GA (hr'.mono (by decide)) (passes_call (takes_of rfl rfl rfl rfl) (fun _ _ _ _ h => h)) (pa_cons (pv 1) (pa_cons (pv 3) pa_nil)))) (pe_tup (pa_cons pe_str (pa_cons pe_non pa_nil))) (nomark _))
        (pss_one (ps_ret pe_bl)) pss_nil)
      (pss_one (ps_if (pt_cmpR (r := rNeD K) (op_neD (by exact hr.units)) (plam (P := P) (CC := CC) (CM := CM) T D TB rfl rfl hr (lamS_by (sc := defScope sRef) (by decide +kernel))
          (fun A outer s H E f c' hr' => pcall DB GB (hr'.mono (by decide)) (passes_call (takes_of rfl rfl rfl rfl) (fun _ _ _ _ h => h)) (pa_cons (pv 1) (pa_cons (pv 3) pa_nil)))) (pe_tup (pa_cons pe_str (pa_cons pe_non pa_nil))) (nomark _))
        (pss_one (ps_ret pe_bl)) pss_nil))))
    (pss_cons (ps_set (i := 6) scRef.nd rfl (.inr rfl) (pcall DO GO (hr.mono (by decide)) pass0 (pa_cons (pv 0) (pa_cons (pe_lst (pa_cons (pe_op op_add (pv 1) pe_int) (pa_cons (pe_un un_neg pe_int) (pa_cons pe_bl (pa_cons pe_non (pa_cons pe_int pa_nil)))))) pa_nil))))
    (pss_cons (ps_if (pt_cmpR (r := rNeD K) (op_neD (by exact hr.units)) (plam (P := P) (CC := CC) (CM := CM) T D TB rfl rfl hr (lamS_by (sc := defScope sRef) (by decide +kernel))
          (fun A outer s H E f c' hr' => pcall DB GB (hr'.mono (by decide)) (passes_call (takes_of rfl rfl rfl rfl) (fun _ _ _ _ h => h)) (pa_cons (pv 1) (pa_cons (pe_lst (pa_cons pe_int (pa_cons (pv 6) pa_nil))) pa_nil)))) (pe_tup (pa_cons pe_str (pa_cons (pv 6) pa_nil))) (nomark _))
        (pss_one (ps_ret pe_bl)) pss_nil)
    (pss_cons (ps_if (PW.pt (pw_and (pt_cmpR op_gt (pv 1) pe_int (nomark _)) (pw_and1 (pt_cmpR (r := rNeD K) (op_neD (by exact hr.units)) (plam (P := P) (CC := CC) (CM := CM) T D TB rfl rfl hr (lamS_by (sc := defScope sRef) (by decide +kernel))
          (fun A outer s H E f c' hr' => pcall DA GA (hr'.mono (by decide)) (passes_call (takes_of rfl rfl rfl rfl) (fun _ _ _ _ h => h)) (pa_cons (pv 1) (pa_cons (pe_tup (pa_cons pe_int pa_nil)) pa_nil)))) (pe_tup (pa_cons pe_str (pa_cons pe_int pa_nil))) (nomark _)))))
        (pss_one (ps_ret pe_bl)) pss_nil)
    (pss_one (ps_ret (pe_cmpR (r := rEqD K) (op_eqD (by exact hr.units)) (plam (P := P) (CC := CC) (CM := CM) T D TB rfl rfl hr (lamS_by (sc := defScope sRef) (by decide +kernel))
          (fun A outer s H E f c' hr' => pcall DA GA (hr'.mono (by decide)) (passes_call (takes_of rfl rfl rfl rfl) (fun _ _ _ _ h => h)) (pa_cons (pv 1) (pa_cons (pe_lst (pa_cons pe_int (pa_cons (pv 6) pa_nil))) pa_nil)))) (pe_tup (pa_cons pe_str (pa_cons (pv 6) pa_nil))) (nomark _))))))))))), ?_⟩
  -- the first draw
  have g0 : Stg P src H H := ⟨hS, Kb.refl, hT⟩
  refine ⟨.ref src, rfl, 1, rfl, by show 5 ≤ sizeLine; decide, fun L1 nL1 => ?_⟩
  refine ⟨src, L1, _, rfl, hS.ext (ExtN.of (same_upd nL1)), upd_same, src_ne hS nL1, List.cons_ne_nil _ _, by show 5 ≤ 1000; decide, fun i v H1 hv hs1 hb1 => ?_⟩
  have g1 : Stg P src H H1 := g0.draw (same_upd nL1) hs1 hb1
  obtain ⟨tv, bv⟩ := odd_thing (K := K) (H := H1) (List.mem_of_getElem? hv)
  -- its six calls
  refine ⟨6, rfl, by decide, by decide, for_range (lo := 0) (n := (6 : Int).toNat) (fun i σ H2 => ∃ y5, σ = [some (.ref src), some (.int n), none, none, some v, y5, none] ∧ ExtN H1 H2 ∧ Tabs [(P, qL)] H2) ⟨_, rfl, ExtN.refl _, g1.t⟩ ?_ ?_⟩
  · rintro j σ H2 hj ⟨y5, rfl, e2, T2⟩
    rw [Int.zero_add]
    refine heard_count T2 (fun H3 E3 e3 r3 R => ?_) (fun p H3 e3 T3 hp => ⟨v, rfl, after_ne (.inl rfl) (tv.ext e2) e3 T3 hp fun H4 e4 T4 => iteF ⟨_, rfl, e2.trans e4, T4⟩⟩)
    obtain ⟨ta, ha⟩ := tv.arg _ (e2.trans e3)
    exact ⟨.int j, rfl, v, rfl, j, v, .non, ta, rfl, hj, ha, .inl ⟨bv, rfl, r3⟩⟩
  rintro σ H2 ⟨y5, rfl, e2, T2⟩
  have g2 := g1.ext e2 T2
  -- the second draw
  refine ⟨.ref src, rfl, 1, rfl, by show 1 ≤ sizeLine; decide, fun tp ntp => ⟨by show 5 ≤ sizeLine; decide, fun L2 nL2 => ?_⟩⟩
  have s2 : Same H2 (upd (upd H2 tp (.tup [.int 1])) L2 (.lst [.int 0, .int (-1), .non, .bl true, .ref tp])) := sameU (same_upd ntp) nL2
  refine ⟨src, L2, _, rfl, g2.s.ext (ExtN.of s2), upd_same, src_ne (g2.s.ext (ExtN.of (same_upd ntp))) nL2, List.cons_ne_nil _ _, by show 5 ≤ 1000; decide, fun i u H3 hu hs3 hb3 => ?_⟩
  have g3 : Stg P src H H3 := g2.draw s2 hs3 hb3
  have htp : H3 tp = some (.tup [.int 1]) := by
    rw [hb3 tp (src_ne g2.s ntp), upd_ne (ne_of_none upd_same nL2), upd_same]
  obtain ⟨tu, bu⟩ := less_thing (K := K) (H := H3) htp (List.mem_of_getElem? hu)
  -- its four calls
  refine ⟨4, rfl, by decide, by decide, for_range (lo := 0) (n := (4 : Int).toNat) (fun i σ H4 => ∃ y5, σ = [some (.ref src), some (.int n), some u, none, some v, y5, none] ∧ ExtN H3 H4 ∧ Tabs [(P, qL)] H4) ⟨_, rfl, ExtN.refl _, g3.t⟩ ?_ ?_⟩
  · rintro j σ H4 hj ⟨y5, rfl, e4, T4⟩
    rw [Int.zero_add]
    have hj4 : j < 4 := hj
    refine heard_count T4 (fun H5 E5 e5 r5 R => ?_) (fun p H5 e5 T5 hp => ⟨u, rfl, after_ne (.inl rfl) (tu.ext e4) e5 T5 hp fun H6 e6 T6 => iteF ⟨_, rfl, e4.trans e6, T6⟩⟩)
    exact ⟨.int j, rfl, .int n, rfl, u, rfl, j, .int n, u, "int", rfl, Nat.lt_of_lt_of_le hj4 (by decide), rfl, .inr ⟨hj4, range_int (hi := 600) hn, tu.arg _ (e4.trans e5), bu, r5⟩⟩
  rintro σ H4 ⟨y5, rfl, e4, T4⟩
  have g4 := g3.ext e4 T4
  -- no moments
  refine ⟨by show 0 ≤ sizeLine; decide, fun t0 nt0 => ⟨by show 0 ≤ sizeLine; decide, fun l0 nl0 => ⟨by show 5 ≤ sizeLine; decide, fun LL nLL => ?_⟩⟩⟩
  have s5 : Same H4 (upd (upd (upd H4 t0 (.tup [])) l0 (.lst [])) LL (.lst [.non, .ref t0, .ref l0, .int 0, .str "0"])) := sameU (sameU (same_upd nt0) nl0) nLL
  generalize hH5 : upd (upd (upd H4 t0 (.tup [])) l0 (.lst [])) LL (.lst [.non, .ref t0, .ref l0, .int 0, .str "0"]) = H5 at s5
  have hLL : H5 LL = some (.lst [.non, .ref t0, .ref l0, .int 0, .str "0"]) := by
    rw [← hH5]
    exact upd_same
  have hl0 : H5 l0 = some (.lst []) := by
    rw [← hH5, upd_ne (ne_of_none upd_same nLL)]
    exact upd_same
  have ht0 : H5 t0 = some (.tup []) := by
    have e1 : upd (upd H4 t0 (.tup [])) l0 (.lst []) t0 = some (.tup []) := by
      rw [upd_ne (ne_of_none upd_same nl0)]
      exact upd_same
    rw [← hH5, upd_ne (ne_of_none e1 nLL)]
    exact e1
  have g5 : Stg P src H H5 := g4.ext (ExtN.of s5) (T4.ext s5)
  refine ⟨LL, rfl, ⟨_, .inl (.inl hLL)⟩, ?_⟩
  refine for_list (K := K) (a := LL) (xs := [.non, .ref t0, .ref l0, .int 0, .str "0"]) (fun i σ H6 => ∃ y3 y5, σ = [some (.ref src), some (.int n), some u, y3, some v, y5, none] ∧ ExtN H5 H6 ∧ Tabs [(P, qL)] H6) ⟨_, _, rfl, ExtN.refl _, g5.t⟩
    (fun i σ H6 _ ⟨_, _, _, e6, _⟩ => .inl (.inl (e6 _ _ hLL (fun ps z => nomatch z)))) ?_ ?_
  · rintro j x σ H6 hx ⟨y3, y5, rfl, e6, T6⟩
    have hmem := List.mem_of_getElem? hx
    have moms : ∀ {H7 : Hp} {E7 : XK} {b : Bool} {good : List Int → Prop}, ExtN H5 H7 → Raised CM .non H7 E7 → Moms n b CM x H7 E7 good := fun e7 r7 =>
      none_moms (e7 _ _ ht0 (fun ps z => nomatch z)) (e7 _ _ hl0 (fun ps z => nomatch z)) hmem r7
    have cast : ∀ {n' : Nat} {b : Bool} {E7 : XK} {H7 : Hp} {good : List Int → Prop}, V.int (n : Int) = V.int (n' : Int) → Moms n b CM x H7 E7 good → Moms n' b CM x H7 E7 good := fun e m => by
      have e' : (n : Int) = _ := V.int.inj e
      rw [← e']
      exact m
    refine heard_moment T6 (fun H7 E7 e7 r7 R => ⟨.int n, rfl, x, rfl, .int n, x, "int", rfl, rfl, fun z => ?_, fun n' en _ => cast en (moms (e6.trans e7) r7)⟩) (fun p H7 e7 T7 hp => after_ne (.inr rfl) thing_non e7 T7 hp fun H8 e8 T8 => iteF ?_)
    · have y : isRange (.int n) 0 600 = true := range_int (hi := 600) hn
      rw [y] at z
      cases z
    refine heard_moment T8 (fun H9 E9 e9 r9 R => ⟨.int n, rfl, x, rfl, .int n, x, "int", rfl, rfl, fun z => ?_, fun n' en _ => cast en (moms ((e6.trans e8).trans e9) r9)⟩) (fun p H9 e9 T9 hp => after_ne (.inr rfl) thing_non e9 T9 hp fun Ha ea Ta => iteF ⟨_, _, rfl, (e6.trans e8).trans ea, Ta⟩)
    have y : isRange (.int n) 0 600 = true := range_int (hi := 600) hn
    rw [y] at z
    cases z
  rintro σ H6 ⟨y3, y5, rfl, e6, T6⟩
  have g6 := g5.ext e6 T6
  -- the third draw
  refine ⟨.ref src, rfl, .int n, rfl, n, 1, rfl, rfl, 1, rfl, by show 5 ≤ sizeLine; decide, fun L3 nL3 => ?_⟩
  refine ⟨src, L3, _, rfl, g6.s.ext (ExtN.of (same_upd nL3)), upd_same, src_ne g6.s nL3, List.cons_ne_nil _ _, by show 5 ≤ 1000; decide, fun i z H7 hz hs7 hb7 => ?_⟩
  have g7 : Stg P src H H7 := g6.draw (same_upd nL3) hs7 hb7
  obtain ⟨tz, bz⟩ := wrong_thing (K := K) (H := H7) (n := n) (List.mem_of_getElem? hz)
  have noR : ∀ {Z : Prop}, isRange (.int n) 0 600 = false → Z := fun {Z} z => by
    have y : isRange (.int n) 0 600 = true := range_int (hi := 600) hn
    rw [y] at z
    cases z
  -- 0 and a wrong one
  have wr : ∀ {b : Bool} {H8 : Hp} {E8 : XK} {F : Nat → List Int → Int} {R : VK}, ExtN H7 H8 → Raised CM z H8 E8 → ∀ L, H8 L = none → spReach b F CC CM [.int n, .ref L] (upd H8 L (.lst [.int 0, z])) R E8 := fun {b H8 E8 F R} e8 r8 L nL => by
    refine ⟨.int n, .ref L, "int", rfl, rfl, noR, fun n' en _ => ?_⟩
    have e' : (n : Int) = n' := V.int.inj en
    rw [← Int.ofNat.inj e']
    exact wrong_moms upd_same (tz.arg _ (e8.trans (ExtN.of (same_upd nL)))) (bz b) (r8.same (same_upd nL))
  refine heard_moment g7.t (fun H8 E8 e8 r8 R => ⟨.int n, rfl, z, rfl, by show 2 ≤ sizeLine; decide, fun L nL => wr e8 r8 L nL⟩) (fun p H8 e8 T8 hp => ⟨z, rfl, after_ne (.inr rfl) tz e8 T8 hp fun H9 e9 T9 => iteF ?_⟩)
  have g9 := g7.ext e9 T9
  -- the last one
  have fin : ∀ Hb, ExtN H9 Hb → Tabs [(P, qL)] Hb → tRet (tOp (rEqD K) (tLam [(P, qL)] (TTold2 CC CM) fun E' => tCall (spReach true reachOn CC CM) [] E' (tCons (tVar 1) (tCons (tLst (tCons (tC (.int 0)) (tCons (tVar 6) tNil))) tNil))) (tTup (tCons (tC (.str "moment")) (tCons (tVar 6) tNil))))
      { nx := fun _ H' => Q .non H', rt := Q } [some (.ref src), some (.int n), some u, y3, some v, y5, some z] Hb := fun Hb eb Tb => by
    refine heard_moment Tb (fun Hc Ec ec rc R => ⟨.int n, rfl, z, rfl, by show 2 ≤ sizeLine; decide, fun L nL => wr ((e9.trans eb).trans ec) rc L nL⟩) (fun p Hc ec Tc hp => ⟨z, rfl, by show 2 ≤ sizeLine; decide, fun p2 np => ?_⟩)
    have sc := same_upd (o := .tup [.str "moment", z]) np
    exact told_eq (.inr rfl) (tz.dat _ (((e9.trans eb).trans ec).trans (ExtN.of sc))) (sc _ _ hp) upd_same (q _ (g9.ext ((eb.trans ec).trans (ExtN.of sc)) (Tc.ext sc)))
  refine ⟨.int n, rfl, n, 0, rfl, rfl, _, rfl, ite_bool (fun c1 => ?_) (fun _ => iteF (fin H9 (ExtN.refl _) T9))⟩
  have hpos : 0 < n := by
    have := of_decide_eq_true c1
    omega
  refine heard_moment T9 (fun Ha Ea ea ra R => ⟨.int n, rfl, by show 1 ≤ sizeLine; decide, fun p1 np1 => ⟨.int n, .ref p1, "int", rfl, rfl, noR, fun n' en _ => ?_⟩⟩) (fun p Ha ea Ta hp => after_ne (.inr rfl) (thing_int 1) ea Ta hp fun Hb eb Tb => iteF (fin Hb eb Tb))
  have e' : (n : Int) = n' := V.int.inj en
  rw [← Int.ofNat.inj e']
  exact one_moms upd_same hpos (ra.same (same_upd np1))
end
end K19

/-! the choices: what the law asks of them -/
namespace K19
def check5 (last many : Nat) : Bool := !((choices last many).filter firsts).isEmpty
theorem check5_all : checks check5 = true := by decide +kernel
theorem okM_filter {p : Int → Bool} : ∀ {l : List Int} {last a : Int}, okM last a l → okM last a (l.filter p)
  | [], _, _, _ => True.intro
  | m :: r, last, a, h => by
    cases e : p m with
    | true =>
      rw [List.filter_cons_of_pos (by exact e)]
      exact ⟨h.1, h.2.1, h.2.2.1, okM_filter h.2.2.2⟩
    | false =>
      rw [List.filter_cons_of_neg (by rw [e]; decide)]
      exact okM_le (okM_filter h.2.2.2) (Int.le_of_lt h.1)
theorem okM_raise {b : Int} : ∀ {l : List Int} {last a : Int}, okM last a l → (∀ x ∈ l, b < x) → okM last b l
  | [], _, _, _, _ => True.intro
  | m :: r, last, a, h, hb => ⟨hb m (List.mem_cons_self ..), h.2⟩
def based (l : List Int) : List Int := 0 :: l.filter fun z => decide (0 < z)
theorem based_ok {l : List Int} {n : Nat} {a : Int} (h : okM n a l) : okM n (-1) (based l) :=
  ⟨by decide, Int.le_refl _, Int.natCast_nonneg n, okM_raise (okM_filter h) fun x hx => of_decide_eq_true (List.mem_filter.mp hx).2⟩
section
variable {n m : Nat}
theorem choices_ok (hn : n < 9) (h1 : 1 ≤ m) (h2 : m ≤ 4) {l : List Int} (hl : l ∈ choices n m) : okM n (-1) l ∧ l ≠ [] := by
  have h := of_checks check1_all hn h1 h2
  unfold check1 at h
  rw [List.all_eq_true] at h
  have q := h l hl
  rw [Bool.and_eq_true] at q
  refine ⟨okM_of q.1, fun z => ?_⟩
  rw [z] at q
  exact absurd q.2 (by decide)
theorem choices_len (hn : n < 9) (h1 : 1 ≤ m) (h2 : m ≤ 4) : (choices n m).length ≤ 600 :=
  Nat.le_trans (List.length_filter_le _ _) (of_decide_eq_true (of_checks check2_all hn h1 h2))
theorem ons_ne (hn : n < 9) (h1 : 1 ≤ m) (h2 : m ≤ 4) : ((choices n m).filter firsts) ≠ [] := fun z => by
  have h := of_checks check5_all hn h1 h2
  unfold check5 at h
  rw [z] at h
  exact absurd h (by decide)
theorem choices_ne (hn : n < 9) (h1 : 1 ≤ m) (h2 : m ≤ 4) : choices n m ≠ [] := fun z => ons_ne hn h1 h2 (by rw [z]; rfl)
theorem ons_least (hn : n < 9) (h1 : 1 ≤ m) (h2 : m ≤ 4) : gmin (((choices n m).filter firsts).map fun l => far n l false) = leastOn n m := of_decide_eq_true (of_checks check3_all hn h1 h2)
theorem boths_least (hn : n < 9) (h1 : 1 ≤ m) (h2 : m ≤ 4) : gmin ((choices n m).map fun l => far n l true) = leastBoth n m := of_decide_eq_true (of_checks check4_all hn h1 h2)
end
theorem okM_len : ∀ {l : List Int} {last a : Int}, okM last a l → (l.length : Int) ≤ last - a ∨ l = []
  | [], _, _, _ => .inr rfl
  | m :: r, last, a, h => by
    left
    rcases okM_len h.2.2.2 with q | q
    · have h1 := h.1
      rw [List.length_cons]
      omega
    · rw [q]
      have h1 := h.1
      have h2 := h.2.2.1
      show ((1 : Nat) : Int) ≤ _
      omega
theorem okM_len600 {l : List Int} {n : Nat} (h : okM n (-1) l) (hn : n ≤ 600) : l.length ≤ 1000 := by
  rcases okM_len h with q | q
  · omega
  · rw [q]
    exact Nat.zero_le _
end K19

/-! law -/
namespace K19
open PySem PySem.Spec PyProof.Rows L2 LamX
abbrev sLaw : Stmt := topS 32
abbrev nLaw : List Str := ["_law_script", "_law_k", "_law_source", "_law_last", "_law_many", "_law_lots", "_law_lot", "_law_based", "_law_ons", "_law_boths", "_law_room", "_law_some", "_law_first", "_law_second", "_law_one_here"]
theorem scLaw : FnScope nLaw ["_law_script"] (defScope sLaw) := ⟨rfl, rfl, rfl, by decide +kernel, rfl, by decide +kernel, by decide +kernel⟩
/-! ### helpers -/
theorem good_first : ∀ {ns : List Int} {L a : Int} {b : Bool}, okM L a ns → (b = true → a = -1 → ns ≠ [] → ns.head? = some 0) → -1 ≤ a → firstBad L b a (ns.map V.int) = none
  | [], _, _, _, _, _, _ => rfl
  | x :: r, L, a, b, h, hh, ha => by
    have w : wrong1 L b a (.int x) = false := by
      show (!(decide (0 ≤ x) && decide (x ≤ L)) || (decide (x ≤ a) || (b && (decide (a = -1) && !decide (x = 0))))) = false
      rw [decide_eq_true h.2.1, decide_eq_true h.2.2.1, decide_eq_false (show ¬ x ≤ a by have := h.1; omega)]
      cases b with
      | false => rfl
      | true =>
        by_cases c : a = -1
        · have e : x = 0 := Option.some.inj (hh rfl c (List.cons_ne_nil _ _))
          rw [e, decide_eq_true (show (0 : Int) = 0 by decide), decide_eq_true c]
          rfl
        · rw [decide_eq_false c]
          rfl
    have e1 : firstBad L b a ((x :: r).map V.int) = firstBad L b x (r.map V.int) := if_neg (by rw [w]; exact Bool.false_ne_true)
    rw [e1]
    exact good_first h.2.2.2 (fun _ hx _ => absurd hx (by have := h.2.1; omega)) (by have := h.2.1; omega)
theorem map_int_inj : ∀ {l r : List Int}, l.map V.int = r.map V.int → l = r
  | [], [], _ => rfl
  | [], _ :: _, h => by cases h
  | _ :: _, [], h => by cases h
  | x :: l, y :: r, h => by
    have h1 := List.cons.inj h
    rw [V.int.inj h1.1, map_int_inj h1.2]
theorem noR {n : Nat} {Z : Prop} (hn : n ≤ 600) (z : isRange (.int n) 0 600 = false) : Z := by
  have y : isRange (.int n) 0 600 = true := range_int (hi := 600) hn
  rw [y] at z
  cases z
theorem moms_good {b : Bool} {CM ad : Addr} {n : Nat} {kd : Bool} {ns : List Int} {H : Hp} {E : XK} {good : List Int → Prop} (hn : n ≤ 600) (h : H ad = some (Tk kd (ns.map V.int))) (hok : okM n (-1) ns) (hne : ns ≠ []) (hh : b = true → ns.head? = some 0)
    (q : good ns) : Moms n b CM (.ref ad) H E good := by
  refine .inr ⟨ad, kd, _, rfl, h, by rw [List.length_map]; exact okM_len600 hok hn, fun z => absurd (List.map_eq_nil_iff.mp z) hne, fun _ => ⟨fun x hx => ?_, fun x hx => ?_, fun ns' e _ _ => ?_⟩⟩
  · obtain ⟨z, _, rfl⟩ := List.mem_map.mp hx
    exact ⟨_, rfl⟩
  · rw [good_first hok (fun hb _ _ => hh hb) (by decide)] at hx
    cases hx
  · rw [← map_int_inj e]
    exact q
theorem Lots.but {src : Addr} {H H1 : Hp} {as : List Addr} {ls : List (List Int)} (h : Lots H as ls) (s : Src H src) (b : But src H H1) : Lots H1 as ls := ⟨h.1, fun i a l e1 e2 => by
  obtain ⟨x, y, hs, _⟩ := s
  have ha := h.2 i a l e1 e2
  exact (b a (ne_of ha hs (fun z => nomatch z))).trans ha⟩
theorem kb_new {src : Addr} {H : Hp} {o : HO} : Kb src H (upd H src o) := fun b o' hb e _ => by
  rw [upd_ne hb]
  exact e
theorem Stg.trans {P src : Addr} {H0 H1 H2 : Hp} (a : Stg P src H0 H1) (b : Stg P src H1 H2) : Stg P src H0 H2 := ⟨b.s, fun c o h e n => b.k c o h (a.k c o h e n) n, b.t⟩
theorem Stg.same {P src : Addr} {H0 H1 H2 : Hp} (a : Stg P src H0 H1) (s : Same H1 H2) : Stg P src H0 H2 := a.ext (ExtN.of s) (a.t.ext s)
theorem sql_kb {K : PySem.W.Frag} {src a : Addr} {H H1 : Hp} {xs : List V} (h : SqL K H a xs) (n : H src = none) (k : Kb src H H1) : SqL K H1 a xs := by
  rcases h with (h | ⟨o, h⟩) | h
  · exact .inl (.inl (k _ _ (ne_of_none h n) h (fun ps z => nomatch z)))
  · exact .inl (.inr ⟨o, k _ _ (ne_of_none h n) h (fun ps z => nomatch z)⟩)
  · exact .inr h
theorem ne_same {x y : Int} {A B : Prop} (e : x = y) (h : B) : if (!decide (V.int x = V.int y)) = true then A else B := by
  rw [e]
  exact iteNS rfl h
theorem head_cons {l : List Int} {z : Int} {r : List Int} (e : l = z :: r) : firsts l = decide (z = 0) := by
  rw [e]
  rfl
def spLaw (K : PySem.W.Frag) (P : Addr) : Sp := fun vs H Q _ => ∃ (a : Addr) (ns : List Int), vs = [.ref a] ∧ SqL K H a (ns.map V.int) ∧ ns.length ≤ 63 ∧ Tabs [(P, qL)] H ∧ ∀ H', Q (.bl true) H'
section
variable {w : World} {K : PySem.W.Frag} {mg : Str → Option Value} {base : Heap} {CC CM P fPo fTa fOn fFa fCh fEv fRf fRo fRb fLo fLb fEo fEb : Addr} {fdPo fdTa fdOn fdFa fdCh fdEv fdRf fdRo fdRb fdLo fdLb fdEo fdEb : FuncData}
theorem ok_law {f : Addr} {fd : FuncData} (B : Bt mg) (F : Df K mg "law" sLaw ["_law_script"] f fd)
    (DPo : Df K mg "_law_pool" sPool ["_law_script", "_law_k"] fPo fdPo) (GPo : FnOk theProg w K mg base CX0 1 fPo fdPo ["_law_script", "_law_k"] (spPool K))
    (DTa : Df K mg "_law_take" sTake ["_law_source", "_law_top"] fTa fdTa) (GTa : FnOk theProg w K mg base CX0 1 fTa fdTa ["_law_source", "_law_top"] spTake)
    (DOn : Df K mg "_law_one" sOne ["_law_source", "_law_things"] fOn fdOn) (GOn : FnOk theProg w K mg base CX0 2 fOn fdOn ["_law_source", "_law_things"] spOne)
    (DFa : Df K mg "_law_far" sFar ["_law_last", "_law_some", "_law_both"] fFa fdFa) (GFa : FnOk theProg w K mg base CX0 1 fFa fdFa ["_law_last", "_law_some", "_law_both"] spFar)
    (DCh : Df K mg "_law_choices" sChoices ["_law_last", "_law_many"] fCh fdCh) (GCh : FnOk theProg w K mg base CX0 1 fCh fdCh ["_law_last", "_law_many"] spChoices)
    (DEv : Df K mg "_law_evens" sEvens ["_law_last", "_law_many"] fEv fdEv) (GEv : FnOk theProg w K mg base CX0 5 fEv fdEv ["_law_last", "_law_many"] spEvens)
    (DRf : Df K mg "_law_refusals" sRef ["_law_source", "_law_last"] fRf fdRf) (GRf : FnOk theProg w K mg base CX0 9 fRf fdRf ["_law_source", "_law_last"] (spRef P))
    (DRo : Df K mg "reach_on" sReachOn ["last", "moments"] fRo fdRo) (GRo : FnOk theProg w K mg base (L2.CX theProg w) 4 fRo fdRo ["last", "moments"] (spReach true reachOn CC CM))
    (DRb : Df K mg "reach_both" sReachBoth ["last", "moments"] fRb fdRb) (GRb : FnOk theProg w K mg base (L2.CX theProg w) 4 fRb fdRb ["last", "moments"] (spReach false reachBoth CC CM))
    (DLo : Df K mg "least_on" sLeastOn ["last", "many"] fLo fdLo) (GLo : FnOk theProg w K mg base (L2.CX theProg w) 4 fLo fdLo ["last", "many"] (spLeast leastOn CC))
    (DLb : Df K mg "least_both" sLeastBoth ["last", "many"] fLb fdLb) (GLb : FnOk theProg w K mg base (L2.CX theProg w) 4 fLb fdLb ["last", "many"] (spLeast leastBoth CC))
    (DEo : Df K mg "even_on" sEvenOn ["last", "many"] fEo fdEo) (GEo : FnOk theProg w K mg base (L2.CX theProg w) 5 fEo fdEo ["last", "many"] (spEven evenOn CC))
    (DEb : Df K mg "even_both" sEvenBoth ["last", "many"] fEb fdEb) (GEb : FnOk theProg w K mg base (L2.CX theProg w) 5 fEb fdEb ["last", "many"] (spEven evenBoth CC)) :
    FnOk theProg w K mg base CX0 10 f fd ["_law_script"] (spLaw K P) := by
  refine F.F.ok scLaw (fun vs H Q E h => ?_) (fun cdv A outer s H vs Q E hr h => ?_)
  · obtain ⟨a, ns, rfl, _⟩ := h
    rfl
  obtain ⟨a, ns, rfl, hSc, hlen, hT, q⟩ := h
  have r1 := hr.mono (show 1 ≤ 9 by decide)
  have r2 := hr.mono (show 2 ≤ 9 by decide)
  have r4 := hr.mono (show 4 ≤ 9 by decide)
  have r5 := hr.mono (show 5 ≤ 9 by decide)
  refine ⟨_, pss_cons (ps_for PassesOwn.never rfl (pi_range1 rfl B.range (pa_cons (pe_callB (call_max2 rfl) (by rfl) B.max (by decide +kernel) (pa_cons pe_int (pa_cons (pe_callB (call_min2 rfl) (by rfl) B.min (by decide +kernel)
      (pa_cons pe_int (pa_cons (pe_callB call_len_seq (by rfl) B.len PySem.boot_len (pa_cons (pv 0) pa_nil)) pa_nil))) pa_nil))) pa_nil)) (pg_name (i := 1) scLaw.nd rfl (.inl rfl))
    -- the draws
    (pss_cons (ps_set (i := 2) scLaw.nd rfl (.inl rfl) (pcall DPo GPo r1 pass0 (pa_cons (pv 0) (pa_cons (pv 1) pa_nil))))
    (pss_cons (ps_asg (pe_tup (pa_cons (pcall DTa GTa r1 pass0 (pa_cons (pv 2) (pa_cons pe_int pa_nil))) (pa_cons (pe_op op_add pe_int (pcall DTa GTa r1 pass0 (pa_cons (pv 2) (pa_cons pe_int pa_nil)))) pa_nil)))
      (pg_tup rfl (pgs_cons (pg_name (i := 3) scLaw.nd rfl (.inr rfl)) (pgs_cons (pg_name (i := 4) scLaw.nd rfl (.inl rfl)) pgs_nil))))
    (pss_cons (ps_set (i := 5) scLaw.nd rfl (.inl rfl) (pcall DCh GCh r1 pass0 (pa_cons (pv 3) (pa_cons (pv 4) pa_nil))))
    (pss_cons (ps_set (i := 6) scLaw.nd rfl (.inl rfl) (pcall DOn GOn r2 pass0 (pa_cons (pv 2) (pa_cons (pv 5) pa_nil))))
    (pss_cons (ps_set (i := 7) scLaw.nd rfl (.inl rfl) (pe_callTy call_tuple_of (by rfl) B.tuple (by decide +kernel) (pa_cons (pe_op op_cat (pe_lst (pa_cons pe_int pa_nil))
        (pe_lc (own := [("_law_one_here", 14)]) (g := gName 14) rfl scLaw.nd (pi_ln 6) (blkOk_by (own := [("_law_one_here", 14)]) (N := nLaw) (sc := defScope sLaw) (by decide +kernel))
          (fun _ _ _ _ _ => pg_name (i := 14) scLaw.nd rfl (.inl rfl)) (fun _ _ _ _ _ => pts_one (pt_cmpR op_gt (pv 14) pe_int (nomark _))) (fun _ _ _ _ _ => pv 14))) pa_nil)))
    -- the reaches of the drawn moments
    (pss_cons (ps_if (pt_cmpR op_ne (pcall DRb GRb r4 passL (pa_cons (pv 3) (pa_cons (pv 6) pa_nil))) (pcall DFa GFa r1 pass0 (pa_cons (pv 3) (pa_cons (pv 6) (pa_cons pe_bl pa_nil)))) (nomark _)) (pss_one (ps_ret pe_bl)) pss_nil)
    (pss_cons (ps_if (pt_cmpR op_ne (pcall DRo GRo r4 passL (pa_cons (pv 3) (pa_cons (pe_callTy call_list_of (by rfl) B.list (by decide +kernel) (pa_cons (pv 7) pa_nil)) pa_nil)))
        (pcall DFa GFa r1 pass0 (pa_cons (pv 3) (pa_cons (pv 7) (pa_cons pe_bl pa_nil)))) (nomark _)) (pss_one (ps_ret pe_bl)) pss_nil)
    -- the reaches of all choices
    (pss_cons (ps_setLc (i := 8) (own := [("_law_one_here", 14)]) (g := gName 14) rfl scLaw.nd rfl rfl (sw_true rfl rfl rfl (by decide +kernel)) (pi_list (pv 5)) (blkOk_by (own := [("_law_one_here", 14)]) (N := nLaw) (sc := defScope sLaw) (by decide +kernel))
          (fun _ _ _ _ _ => pg_name (i := 14) scLaw.nd rfl (.inl rfl)) (fun _ _ _ _ _ => pts_one (pt_cmpR op_eq (pe_ix (r := rIxT K) ix_tup (pv 14) pe_int (fun _ _ => rfl)) pe_int (nomark _)))
          (fun _ _ _ _ _ => pcall DFa GFa r1 pass0 (pa_cons (pv 3) (pa_cons (pv 14) (pa_cons pe_bl pa_nil)))))
    (pss_cons (ps_setLc (i := 9) (own := [("_law_one_here", 14)]) (g := gName 14) (tt := tYes) rfl scLaw.nd rfl rfl (sw_true rfl rfl rfl (by decide +kernel)) (pi_list (pv 5)) (blkOk_by (own := [("_law_one_here", 14)]) (N := nLaw) (sc := defScope sLaw) (by decide +kernel))
          (fun _ _ _ _ _ => pg_name (i := 14) scLaw.nd rfl (.inl rfl)) (fun _ _ _ _ _ => pts_nil)
          (fun _ _ _ _ _ => pcall DFa GFa r1 pass0 (pa_cons (pv 3) (pa_cons (pv 14) (pa_cons pe_bl pa_nil)))))
    (pss_cons (ps_if (pt_cmpR op_ne (pcall DLo GLo r4 passL (pa_cons (pv 3) (pa_cons (pv 4) pa_nil))) (pe_callB (cr_min rfl) (by rfl) B.min (by decide +kernel) (pa_cons
        (pe_lc (own := [("_law_one_here", 14)]) (g := gName 14) (tt := tYes) rfl scLaw.nd (pi_list (pv 8)) (blkOk_by (own := [("_law_one_here", 14)]) (N := nLaw) (sc := defScope sLaw) (by decide +kernel))
          (fun _ _ _ _ _ => pg_name (i := 14) scLaw.nd rfl (.inl rfl)) (fun _ _ _ _ _ => pts_nil) (fun _ _ _ _ _ => pe_callTy call_int1 (by rfl) B.int (by decide +kernel) (pa_cons (pv 14) pa_nil))) pa_nil)) (nomark _)) (pss_one (ps_ret pe_bl)) pss_nil)
    (pss_cons (ps_if (pt_cmpR op_ne (pcall DLb GLb r4 passL (pa_cons (pv 3) (pa_cons (pv 4) pa_nil))) (pe_callB (cr_min rfl) (by rfl) B.min (by decide +kernel) (pa_cons
        (pe_lc (own := [("_law_one_here", 14)]) (g := gName 14) (tt := tYes) rfl scLaw.nd (pi_list (pv 9)) (blkOk_by (own := [("_law_one_here", 14)]) (N := nLaw) (sc := defScope sLaw) (by decide +kernel))
          (fun _ _ _ _ _ => pg_name (i := 14) scLaw.nd rfl (.inl rfl)) (fun _ _ _ _ _ => pts_nil) (fun _ _ _ _ _ => pe_callTy call_int1 (by rfl) B.int (by decide +kernel) (pa_cons (pv 14) pa_nil))) pa_nil)) (nomark _)) (pss_one (ps_ret pe_bl)) pss_nil)
    -- what is refused
    (pss_cons (ps_if (pt_not (pt_val (pcall DRf GRf hr pass0 (pa_cons (pv 2) (pa_cons (pv 3) pa_nil))))) (pss_one (ps_ret pe_bl)) pss_nil)
    -- the even moments
    (pss_one (ps_for PassesOwn.never rfl (pi_list (pe_lst (pa_cons (pe_lst (pa_cons (pv 3) (pa_cons (pv 4) pa_nil))) (pa_cons (pe_lst (pa_cons (pcall DTa GTa r1 pass0 (pa_cons (pv 2) (pa_cons pe_int pa_nil)))
        (pa_cons (pe_op op_add pe_int (pcall DTa GTa r1 pass0 (pa_cons (pv 2) (pa_cons pe_int pa_nil)))) pa_nil))) pa_nil)))) (pg_unl rfl (pgs_cons (pg_name (i := 10) scLaw.nd rfl (.inl rfl)) (pgs_cons (pg_name (i := 11) scLaw.nd rfl (.inl rfl)) pgs_nil)))
      (pss_cons (ps_if (pt_cmpR op_ne (pcall DLo GLo r4 passL (pa_cons (pv 10) (pa_cons (pv 11) pa_nil))) (pe_op op_sub (pe_op op_fdivN (pe_op op_add (pv 10) (pv 11)) (pv 11)) pe_int) (nomark _)) (pss_one (ps_ret pe_bl)) pss_nil)
      (pss_cons (ps_if (pt_cmpR op_ne (pcall DLb GLb r4 passL (pa_cons (pv 10) (pa_cons (pv 11) pa_nil))) (pe_callB (call_max2 rfl) (by rfl) B.max (by decide +kernel) (pa_cons pe_int (pa_cons
          (pe_callTy call_int1 (by rfl) B.int (by decide +kernel) (pa_cons (pe_op op_fdivN (pe_op op_add (pv 10) (pv 11)) (pe_op op_mul pe_int (pv 11))) pa_nil)) pa_nil))) (nomark _)) (pss_one (ps_ret pe_bl)) pss_nil)
      (pss_cons (ps_asg (pcall DEv GEv r5 pass0 (pa_cons (pv 10) (pa_cons (pv 11) pa_nil))) (pg_unl rfl (pgs_cons (pg_name (i := 12) scLaw.nd rfl (.inl rfl)) (pgs_cons (pg_name (i := 13) scLaw.nd rfl (.inl rfl)) pgs_nil))))
      (pss_cons (ps_if (PW.pt (pw_or (pt_cmpR (r := rNeD K) (op_neD (by exact hr.units)) (pcall DEo GEo r5 passL (pa_cons (pv 10) (pa_cons (pv 11) pa_nil))) (pv 12) (nomark _))
          (pw_or1 (pt_cmpR (r := rNeD K) (op_neD (by exact hr.units)) (pcall DEb GEb r5 passL (pa_cons (pv 10) (pa_cons (pv 11) pa_nil))) (pv 13) (nomark _))))) (pss_one (ps_ret pe_bl)) pss_nil)
      (pss_cons (ps_if (PW.pt (pw_or (pt_cmpR op_gt (pe_callB call_len_seq (by rfl) B.len PySem.boot_len (pa_cons (pv 12) pa_nil)) (pv 11) (nomark _)) (pw_or (pt_cmpR op_gt (pe_callB call_len_seq (by rfl) B.len PySem.boot_len (pa_cons (pv 13) pa_nil)) (pv 11) (nomark _))
          (pw_or1 (pt_cmpR op_ne (pcall DRo GRo r4 passL (pa_cons (pv 10) (pa_cons (pv 12) pa_nil))) (pcall DLo GLo r4 passL (pa_cons (pv 10) (pa_cons (pv 11) pa_nil))) (nomark _)))))) (pss_one (ps_ret pe_bl)) pss_nil)
      (pss_one (ps_if (pt_cmpR op_ne (pcall DRb GRb r4 passL (pa_cons (pv 10) (pa_cons (pv 13) pa_nil))) (pcall DLb GLb r4 passL (pa_cons (pv 10) (pa_cons (pv 11) pa_nil))) (nomark _)) (pss_one (ps_ret pe_bl)) pss_nil))))))))))))))))))))))
    (pss_one (ps_ret pe_bl)), ?_⟩
  -- how many turns
  refine ⟨.ref a, rfl, a, _, rfl, .inl hSc, 2, _, rfl, 1, _, rfl, ?_⟩
  rw [List.length_map]
  generalize hj : (if (if (ns.length : Int) < 2 then (ns.length : Int) else 2) > 1 then (if (ns.length : Int) < 2 then (ns.length : Int) else 2) else 1) = j
  have hj2 : 1 ≤ j ∧ j ≤ 2 := by
    rw [← hj]
    split <;> split <;> omega
  refine ⟨j, rfl, by omega, by omega, for_range (lo := 0) (n := j.toNat) (fun i σ H2 => ∃ y1 y2 y3 y4 y5 y6 y7 y8 y9 y10 y11 y12 y13 y14, σ = [some (.ref a), y1, y2, y3, y4, y5, y6, y7, y8, y9, y10, y11, y12, y13, y14] ∧ SqL K H2 a (ns.map V.int) ∧ Tabs [(P, qL)] H2)
    ⟨_, _, _, _, _, _, _, _, _, _, _, _, _, _, rfl, hSc, hT⟩ ?_ ?_⟩
  · rintro i σ H0 hi ⟨y1, y2, y3, y4, y5, y6, y7, y8, y9, y10, y11, y12, y13, y14, rfl, hS0, T0⟩
    rw [Int.zero_add]
    -- the pool
    refine ⟨.ref a, rfl, .int i, rfl, a, ns, i, rfl, hS0, hlen, by omega, fun src x y nsrc hx hy hy2 => ?_⟩
    have g1 : Stg P src H0 (upd H0 src (.lst [.int x, .int y])) := ⟨⟨x, y, upd_same, hx, hy, hy2⟩, kb_new, T0.ext (same_upd nsrc)⟩
    -- last, many
    refine ⟨.ref src, rfl, src, 9, rfl, g1.s, by decide, by decide, fun n H2 hn hs2 hb2 => ?_⟩
    have g2 := g1.draw (Same.refl _) hs2 hb2
    refine ⟨.ref src, rfl, src, 4, rfl, g2.s, by decide, by decide, fun m0 H3 hm0 hs3 hb3 => ?_⟩
    have g3 := g2.draw (Same.refl _) hs3 hb3
    refine ⟨1, m0, rfl, rfl, by show 2 ≤ sizeLine; decide, fun tp ntp => ?_⟩
    have g4 := g3.same (same_upd ntp (o := .tup [.int n, .int (1 + (m0 : Int))]))
    have em : V.int (1 + (m0 : Int)) = V.int ((m0 + 1 : Nat) : Int) := by
      congr 1
      omega
    refine ⟨tp, [.int n, .int ((m0 + 1 : Nat) : Int)], rfl, .inl (.inl (by rw [← em]; exact upd_same)), rfl, .int n, [.int ((m0 + 1 : Nat) : Int)], rfl, .int ((m0 + 1 : Nat) : Int), [], rfl, rfl, ?_⟩
    generalize hH4 : upd H3 tp (.tup [.int n, (fun i j => V.int (i + j)) 1 (m0 : Int)]) = H4
    have hH4' : upd H3 tp (.tup [.int n, .int (1 + (m0 : Int))]) = H4 := hH4
    rw [hH4'] at g4
    have h1 : 1 ≤ m0 + 1 := Nat.succ_pos _
    have h4 : m0 + 1 ≤ 4 := hm0
    generalize m0 + 1 = m at h1 h4
    have hn6 : n ≤ 600 := by omega
    have hm6 : m ≤ 1000 := by omega
    -- all choices
    refine ⟨.int n, rfl, .int m, rfl, n, m, rfl, by omega, h1, h4, fun H5 L as s5 nL eL hL => ?_⟩
    have g5 := g4.same s5
    have hLs := src_ne g4.s nL
    have hcl : as.length ≤ 600 := by
      rw [hL.1]
      exact choices_len hn h1 h4
    -- the drawn one
    refine ⟨.ref src, rfl, .ref L, rfl, src, L, _, rfl, g5.s, eL, hLs, fun z => ?_, by rw [List.length_map]; omega, fun k v H6 hv hs6 hb6 => ?_⟩
    · have z1 := List.map_eq_nil_iff.mp z
      have z2 := hL.1
      rw [z1] at z2
      exact choices_ne hn h1 h4 (List.eq_nil_of_length_eq_zero z2.symm)
    obtain ⟨a0, l0, _, rfl, hl0, ht0⟩ := (hL.but g5.s hb6).get hv
    have g6 := g5.draw (Same.refl _) hs6 hb6
    have eL6 : H6 L = some (.lst (as.map V.ref)) := (hb6 L hLs).trans eL
    have hL6 := hL.but g5.s hb6
    obtain ⟨ok0, ne0⟩ := choices_ok hn h1 h4 (List.mem_of_getElem? hl0)
    have len0 := okM_len600 ok0 hn6
    -- with 0 ahead
    refine ⟨by show 1 ≤ sizeLine; decide, fun z1 nz1 => ⟨a0, false, rfl, ⟨_, Tk.ln (same_upd nz1 _ _ ht0)⟩, fun D nD => ?_⟩⟩
    generalize hH7 : upd H6 z1 (.lst [.int 0]) = H7 at nD
    have s7 : Same H6 H7 := by
      rw [← hH7]
      exact same_upd nz1
    have hz1 : H7 z1 = some (.lst [.int 0]) := by
      rw [← hH7]
      exact upd_same
    refine lc_it walk_ln (fun j H' => Same H7 H' ∧ H' D = some (.lst (((l0.take j).filter fun z => decide (0 < z)).map V.int))) ⟨same_upd nD, upd_same⟩ (fun j H' _ h => Tk.ln (h.1 _ _ (s7 _ _ ht0))) ?_ ?_
    · rintro j x H8 H9 hj ⟨s8, e8⟩ ⟨rfl, hxj⟩
      obtain ⟨z, hz, rfl⟩ := get_int hxj
      have et : (l0.take (j + 1)).filter (fun z => decide (0 < z)) = (l0.take j).filter (fun z => decide (0 < z)) ++ [z].filter fun z => decide (0 < z) := by
        rw [take_more hz, List.filter_append]
      refine ⟨rfl, .int z, rfl, z, 0, rfl, rfl, _, rfl, ite_bool (fun c => ?_) (fun c => ?_)⟩
      · refine ⟨.int z, rfl, _, e8, ?_, samePut s8 nD, ?_⟩
        · rw [List.length_map]
          exact ltLine (Nat.le_trans (List.length_filter_le _ _) (by rw [List.length_take]; exact Nat.min_le_right _ _)) len0
        · rw [upd_same, et, List.map_append, List.filter_cons_of_pos (by exact c)]
          rfl
      · refine ⟨s8, ?_⟩
        rw [e8, et, List.filter_cons_of_neg (by rw [c]; exact Bool.false_ne_true), List.filter_nil, List.append_nil]
    rintro H8 ⟨s8, e8⟩
    rw [List.length_map, List.take_length] at e8
    refine ⟨z1, D, _, _, rfl, rfl, s8 _ _ hz1, e8, ?_, fun p np => ⟨p, _, rfl, .inl ⟨.inl (.inl upd_same), fun bT nbT => ?_⟩⟩⟩
    · rw [List.length_map]
      show 1 + _ ≤ sizeLine
      have := List.length_filter_le (fun z => decide (0 < z)) l0
      exact Nat.le_trans (show 1 + _ ≤ 1001 by omega) (by decide)
    generalize hH9 : upd (upd H8 p _) bT _ = H9
    have s9 : Same H6 H9 := by
      rw [← hH9]
      exact sameU (sameU (s7.trans s8) np) nbT
    have hbT : H9 bT = some (Tk false ((based l0).map V.int)) := by
      rw [← hH9]
      exact upd_same
    have okb := based_ok ok0
    have g9 := g6.same s9
    -- the reaches of the drawn moments
    have ht9 := s9 _ _ ht0
    refine ⟨.int n, rfl, .ref a0, rfl, .int n, .ref a0, "int", rfl, rfl, noR hn6, fun n' en _ => ?_⟩
    obtain rfl : n = n' := Int.ofNat.inj (V.int.inj en)
    refine moms_good (kd := false) hn6 ht9 ok0 ne0 (fun z => Bool.noConfusion z) fun H10 s10 => ?_
    refine ⟨.int n, rfl, .ref a0, rfl, n, a0, false, l0, true, rfl, s10 _ _ ht9, len0, hn6, ne0, fun z => Bool.noConfusion z, fun H11 s11 => ?_⟩
    refine ⟨rfl, _, rfl, ne_same (reach_far_both ne0 n) ?_⟩
    have s911 := s10.trans s11
    refine ⟨.int n, rfl, .ref bT, rfl, bT, _, rfl, .inr (Tk.ln (kd := false) (s911 _ _ hbT)), fun bL nbL => ?_⟩
    have s12 := s911.trans (same_upd (o := .lst ((based l0).map V.int)) nbL)
    refine ⟨.int n, .ref bL, "int", rfl, rfl, noR hn6, fun n' en _ => ?_⟩
    obtain rfl : n = n' := Int.ofNat.inj (V.int.inj en)
    refine moms_good (kd := true) (ns := based l0) hn6 upd_same okb (List.cons_ne_nil _ _) (fun _ => rfl) fun H13 s13 => ?_
    have s913 := s12.trans s13
    refine ⟨.int n, rfl, .ref bT, rfl, n, bT, false, based l0, false, rfl, s913 _ _ hbT, okM_len600 okb hn6, hn6, List.cons_ne_nil _ _, fun _ => rfl, fun H14 s14 => ?_⟩
    refine ⟨rfl, _, rfl, ne_same (reach_far_on okb (List.mem_cons_self ..)) ?_⟩
    have s914 := s913.trans s14
    have g14 := g9.same s914
    have eL14 : H14 L = some (.lst (as.map V.ref)) := s914 _ _ (s9 _ _ eL6)
    have hL14 := (hL6.same s9).same s914
    -- the reaches of all choices, on
    refine ⟨.ref L, rfl, L, rfl, ⟨_, .inl (.inl eL14)⟩, fun D8 nD8 => ?_⟩
    refine lc_list (K := K) (a := L) (xs := as.map V.ref) (fun j H' => Same H14 H' ∧ H' D8 = some (.lst (((((choices n m).take j).filter firsts).map fun l => far n l false).map V.int))) ⟨same_upd nD8, upd_same⟩ (fun j H' _ h => .inl (.inl (h.1 _ _ eL14))) ?_ ?_
    · rintro j x H15 hxj ⟨s15, e15⟩
      obtain ⟨a1, l1, _, rfl, hl1, ht1⟩ := hL14.get hxj
      obtain ⟨ok1, ne1⟩ := choices_ok hn h1 h4 (List.mem_of_getElem? hl1)
      obtain ⟨z, r, rfl⟩ : ∃ z r, l1 = z :: r := by
        cases l1 with
        | nil => exact absurd rfl ne1
        | cons z r => exact ⟨z, r, rfl⟩
      have ht15 := s15 _ _ ht1
      have et : ((choices n m).take (j + 1)).filter firsts = ((choices n m).take j).filter firsts ++ [z :: r].filter firsts := by
        rw [take_more hl1, List.filter_append]
      refine ⟨rfl, .ref a1, rfl, a1, _, 0, .int z, rfl, rfl, .inl (.inl ht15), atI_nat (j := 0) rfl, rfl, _, rfl, ite_bool (fun c => ?_) (fun c => ?_)⟩
      · have ez : z = 0 := V.int.inj (of_decide_eq_true c)
        refine ⟨.int n, rfl, .ref a1, rfl, n, a1, false, z :: r, false, rfl, ht15, okM_len600 ok1 hn6, hn6, ne1, fun _ => by rw [ez]; rfl, fun H16 s16 => ?_⟩
        refine ⟨_, s16 _ _ e15, ?_, samePut (s15.trans s16) nD8, ?_⟩
        · rw [List.length_map, List.length_map]
          refine ltLine (Nat.le_trans (List.length_filter_le _ _) ?_) (Nat.le_refl 1000)
          rw [List.length_take]
          have := choices_len hn h1 h4
          omega
        · rw [upd_same, et, List.filter_cons_of_pos (by rw [ez]; rfl), List.map_append, List.map_append]
          rfl
      · have ez : z ≠ 0 := fun e => of_decide_eq_false c (by rw [e])
        refine ⟨s15, ?_⟩
        rw [e15, et, List.filter_cons_of_neg (by rw [show firsts (z :: r) = decide (z = 0) from rfl, decide_eq_false ez]; exact Bool.false_ne_true), List.filter_nil, List.append_nil]
    rintro H15 ⟨s15, e15⟩
    rw [List.length_map, hL14.1, List.take_length] at e15
    -- both ways
    refine ⟨.ref L, rfl, L, rfl, ⟨_, .inl (.inl (s15 _ _ eL14))⟩, fun D9 nD9 => ?_⟩
    refine lc_list (K := K) (a := L) (xs := as.map V.ref) (fun j H' => Same H15 H' ∧ H' D9 = some (.lst ((((choices n m).take j).map fun l => far n l true).map V.int))) ⟨same_upd nD9, upd_same⟩ (fun j H' _ h => .inl (.inl (h.1 _ _ (s15 _ _ eL14)))) ?_ ?_
    · rintro j x H16 hxj ⟨s16, e16⟩
      obtain ⟨a1, l1, _, rfl, hl1, ht1⟩ := hL14.get hxj
      obtain ⟨ok1, ne1⟩ := choices_ok hn h1 h4 (List.mem_of_getElem? hl1)
      refine ⟨rfl, .int n, rfl, .ref a1, rfl, n, a1, false, l1, true, rfl, s16 _ _ (s15 _ _ ht1), okM_len600 ok1 hn6, hn6, ne1, fun z => Bool.noConfusion z, fun H17 s17 => ?_⟩
      refine ⟨_, s17 _ _ e16, ?_, samePut (s16.trans s17) nD9, ?_⟩
      · rw [List.length_map, List.length_map, List.length_take]
        have := choices_len hn h1 h4
        exact ltLine (show _ ≤ 1000 by omega) (Nat.le_refl 1000)
      · rw [upd_same, take_more hl1, List.map_append, List.map_append]
        rfl
    rintro H16 ⟨s16, e16⟩
    rw [List.length_map, hL14.1, List.take_length] at e16
    have e15' := s16 _ _ e15
    -- the least of each
    refine ⟨.int n, rfl, .int m, rfl, two_of hn6 h1 hm6 ?_⟩
    generalize hos : ((choices n m).filter firsts).map (fun l => far n l false) = os at e15 e15'
    have osl : os.length ≤ 1000 := by
      rw [← hos, List.length_map]
      have := choices_len hn h1 h4
      exact Nat.le_trans (List.length_filter_le _ _) (by omega)
    have osn : os ≠ [] := fun z => by
      rw [← hos] at z
      exact ons_ne hn h1 h4 (List.map_eq_nil_iff.mp z)
    refine ⟨.ref D8, rfl, D8, rfl, ⟨_, .inl (.inl e15')⟩, fun M8 nM8 => ?_⟩
    refine lc_list (K := K) (a := D8) (xs := os.map V.int) (fun j H' => Same H16 H' ∧ H' M8 = some (.lst ((os.take j).map V.int))) ⟨same_upd nM8, upd_same⟩ (fun j H' _ h => .inl (.inl (h.1 _ _ e15'))) ?_ ?_
    · rintro j x H17 hxj ⟨s17, e17⟩
      obtain ⟨z, hz, rfl⟩ := get_int hxj
      refine ⟨rfl, .int z, rfl, .inl ⟨z, rfl, _, e17, ?_, samePut s17 nM8, ?_⟩⟩
      · rw [List.length_map]
        exact ltLine (by rw [List.length_take]; exact Nat.min_le_right _ _) osl
      · rw [upd_same, take_more hz, List.map_append]
        rfl
    rintro H17 ⟨s17, e17⟩
    rw [List.length_map, List.take_length] at e17
    refine ⟨M8, _, rfl, .inl (.inl e17), List.length_pos_iff.mpr osn, fun m8 hm8 hle8 => ⟨rfl, _, rfl, ne_same ?_ ?_⟩⟩
    · rw [← gmin_eq hm8 hle8, ← hos]
      exact (ons_least hn h1 h4).symm
    have e16' := s17 _ _ e16
    refine ⟨.int n, rfl, .int m, rfl, two_of hn6 h1 hm6 ?_⟩
    generalize hbs : (choices n m).map (fun l => far n l true) = bs at e16 e16'
    have bsl : bs.length ≤ 1000 := by
      rw [← hbs, List.length_map]
      have := choices_len hn h1 h4
      omega
    have bsn : bs ≠ [] := fun z => by
      rw [← hbs] at z
      exact choices_ne hn h1 h4 (List.map_eq_nil_iff.mp z)
    refine ⟨.ref D9, rfl, D9, rfl, ⟨_, .inl (.inl e16')⟩, fun M9 nM9 => ?_⟩
    refine lc_list (K := K) (a := D9) (xs := bs.map V.int) (fun j H' => Same H17 H' ∧ H' M9 = some (.lst ((bs.take j).map V.int))) ⟨same_upd nM9, upd_same⟩ (fun j H' _ h => .inl (.inl (h.1 _ _ e16'))) ?_ ?_
    · rintro j x H18 hxj ⟨s18, e18⟩
      obtain ⟨z, hz, rfl⟩ := get_int hxj
      refine ⟨rfl, .int z, rfl, .inl ⟨z, rfl, _, e18, ?_, samePut s18 nM9, ?_⟩⟩
      · rw [List.length_map]
        exact ltLine (by rw [List.length_take]; exact Nat.min_le_right _ _) bsl
      · rw [upd_same, take_more hz, List.map_append]
        rfl
    rintro H18 ⟨s18, e18⟩
    rw [List.length_map, List.take_length] at e18
    refine ⟨M9, _, rfl, .inl (.inl e18), List.length_pos_iff.mpr bsn, fun m9 hm9 hle9 => ⟨rfl, _, rfl, ne_same ?_ ?_⟩⟩
    · rw [← gmin_eq hm9 hle9, ← hbs]
      exact (boths_least hn h1 h4).symm
    have g18 := g14.same (((s15.trans s16).trans s17).trans s18)
    -- what is refused
    refine ⟨.ref src, rfl, .int n, rfl, src, n, rfl, hn6, g18.s, g18.t, fun H19 g19 => ⟨_, rfl, iteF ?_⟩⟩
    have g19 := g18.trans g19
    -- the rooms
    refine ⟨.int n, rfl, .int m, rfl, by show 2 ≤ sizeLine; decide, fun rA nA => ?_⟩
    have sA := same_upd (o := .lst [.int n, .int m]) nA
    have g20 := g19.same sA
    have hAs := src_ne g19.s nA
    refine ⟨.ref src, rfl, src, 601, rfl, g20.s, by decide, by decide, fun r H21 hr6 hs21 hb21 => ?_⟩
    have g21 := g20.draw (Same.refl _) hs21 hb21
    have hA21 : H21 rA = some (.lst [.int n, .int m]) := (hb21 rA hAs).trans upd_same
    refine ⟨.ref src, rfl, src, 40, rfl, g21.s, by decide, by decide, fun k0 H22 hk0 hs22 hb22 => ⟨1, k0, rfl, rfl, by show 2 ≤ sizeLine; decide, fun rB nB => ?_⟩⟩
    have g22 := g21.draw (Same.refl _) hs22 hb22
    have hA22 : H22 rA = some (.lst [.int n, .int m]) := (hb22 rA hAs).trans hA21
    have ek : V.int (1 + (k0 : Int)) = V.int ((k0 + 1 : Nat) : Int) := by
      congr 1
      omega
    refine ⟨by show 2 ≤ sizeLine; decide, fun rC nC => ?_⟩
    generalize hH23 : upd (upd H22 rB _) rC _ = H23
    have s23 : Same H22 H23 := by
      rw [← hH23]
      exact sameU (same_upd nB) nC
    have hC23 : H23 rC = some (.lst [.ref rA, .ref rB]) := by
      rw [← hH23]
      exact upd_same
    have hB23 : H23 rB = some (.lst [.int r, .int ((k0 + 1 : Nat) : Int)]) := by
      rw [← hH23, upd_ne (ne_of_none upd_same nC), ← ek]
      exact upd_same
    have hA23 := s23 _ _ hA22
    have g23 := g22.same s23
    refine ⟨rC, rfl, ⟨_, .inl (.inl hC23)⟩, ?_⟩
    refine for_list (K := K) (a := rC) (xs := [.ref rA, .ref rB]) (fun j σ H' => ∃ y10 y11 y12 y13 y14, σ = [some (.ref a), some (.int i), some (.ref src), some (.int n), some (.int m), some (.ref L), some (.ref a0), some (.ref bT), some (.ref D8), some (.ref D9), y10, y11, y12, y13, y14] ∧ Same H23 H')
      ⟨_, _, _, _, _, rfl, Same.refl _⟩ (fun j σ H' _ ⟨_, _, _, _, _, _, s'⟩ => .inl (.inl (s' _ _ hC23))) ?_ ?_
    · rintro j x σ H24 hxj ⟨y10, y11, y12, y13, y14, rfl, s24⟩
      obtain ⟨ad, r', s', rfl, had, hr', hs1, hs2⟩ : ∃ (ad : Addr) (r' s' : Nat), x = .ref ad ∧ H24 ad = some (.lst [.int r', .int s']) ∧ r' ≤ 600 ∧ 1 ≤ s' ∧ s' ≤ 1000 := by
        have hm := List.mem_of_getElem? hxj
        simp only [List.mem_cons, List.not_mem_nil, or_false] at hm
        rcases hm with rfl | rfl
        · exact ⟨rA, n, m, rfl, s24 _ _ hA23, hn6, h1, hm6⟩
        · exact ⟨rB, r, k0 + 1, rfl, s24 _ _ hB23, by omega, by omega, by omega⟩
      refine ⟨ad, _, rfl, .inl (.inl had), rfl, .int r', _, rfl, .int s', _, rfl, rfl, ?_⟩
      have nz1 : CDivN ((r' : Int) + s') (s' : Int) := ⟨by omega, by omega⟩
      have nz2 : CDivN ((r' : Int) + s') (2 * (s' : Int)) := ⟨by omega, by omega⟩
      -- the least reaches, reckoned
      refine ⟨.int r', rfl, .int s', rfl, two_of hr' hs1 hs2 ?_⟩
      refine ⟨.int r', rfl, .int s', rfl, r', s', rfl, rfl, .int s', rfl, _, s', rfl, rfl, nz1, _, 1, rfl, rfl, rfl, _, rfl, ne_same law_on.symm ?_⟩
      refine ⟨.int r', rfl, .int s', rfl, two_of hr' hs1 hs2 ?_⟩
      refine ⟨.int r', rfl, .int s', rfl, r', s', rfl, rfl, .int s', rfl, 2, s', rfl, rfl, .inl ⟨by decide, by decide⟩, _, 2 * (s' : Int), rfl, rfl, nz2, .inl ⟨_, rfl, 0, _, rfl, rfl, _, rfl, ne_same law_both.symm ?_⟩⟩
      -- the even moments
      refine ⟨.int r', rfl, .int s', rfl, r', s', rfl, hr', hs1, hs2, fun H25 p pa pb s25 hp hpa hpb => ?_⟩
      refine ⟨p, _, rfl, .inl (.inl hp), rfl, .ref pa, _, rfl, .ref pb, _, rfl, rfl, ?_⟩
      refine ⟨.int r', rfl, .int s', rfl, two_of hr' hs1 hs2 fun H26 p2 s26 _ hp2 => ?_⟩
      refine ⟨.ref pa, rfl, _, _, dp_tup hp2, dp_tup (s26 _ _ hpa), shaped_ints _, shaped_ints _, _, rfl, ?_⟩
      rw [eqv_tup]
      refine iteF ⟨.int r', rfl, .int s', rfl, two_of hr' hs1 hs2 fun H27 p3 s27 _ hp3 => ?_⟩
      have s57 := s26.trans s27
      refine ⟨.ref pb, rfl, _, _, dp_tup hp3, dp_tup (s57 _ _ hpb), shaped_ints _, shaped_ints _, _, rfl, ?_⟩
      rw [eqv_tup]
      refine iteF ?_
      have hpa7 := s57 _ _ hpa
      have hpb7 := s57 _ _ hpb
      -- at most so many, with the least reach
      refine ⟨.ref pa, rfl, pa, _, rfl, .inr (.inl (.inl hpa7)), .int s', rfl, _, s', rfl, rfl, _, rfl, ?_⟩
      rw [decide_eq_false (show ¬ (s' : Int) < (((evenOn r' s').map V.int).length : Int) by rw [List.length_map]; have := evenOn_len (last := r') hs1; omega)]
      refine iteF ⟨.ref pb, rfl, pb, _, rfl, .inr (.inl (.inl hpb7)), .int s', rfl, _, s', rfl, rfl, _, rfl, ?_⟩
      rw [decide_eq_false (show ¬ (s' : Int) < (((evenBoth r' s').map V.int).length : Int) by rw [List.length_map]; have := evenBoth_len (last := r') hs1; omega)]
      refine iteF ⟨.int r', rfl, .ref pa, rfl, .int r', .ref pa, "int", rfl, rfl, noR hr', fun n' en _ => ?_⟩
      obtain rfl : r' = n' := Int.ofNat.inj (V.int.inj en)
      refine moms_good (kd := false) (ns := evenOn r' s') hr' hpa7 (evenOn_ok hs1) (fun z => by have y := evenOn_zero (last := r') (many := s'); rw [z] at y; cases y) (fun _ => evenOn_zero) fun H28 s28 => ?_
      refine ⟨.int r', rfl, .int s', rfl, two_of hr' hs1 hs2 ⟨rfl, _, rfl, ?_⟩⟩
      rw [evenOn_reach hs1, show decide (V.int (leastOn r' s') = V.int (leastOn r' s')) = true from decide_eq_true rfl]
      refine iteF ⟨.int r', rfl, .ref pb, rfl, .int r', .ref pb, "int", rfl, rfl, noR hr', fun n' en _ => ?_⟩
      obtain rfl : r' = n' := Int.ofNat.inj (V.int.inj en)
      refine moms_good (kd := false) (ns := evenBoth r' s') hr' (s28 _ _ hpb7) (evenBoth_ok hs1) evenBoth_ne (fun z => Bool.noConfusion z) fun H29 s29 => ?_
      refine ⟨.int r', rfl, .int s', rfl, two_of hr' hs1 hs2 ⟨rfl, _, rfl, ne_same (evenBoth_reach hs1) ?_⟩⟩
      exact ⟨_, _, _, _, _, rfl, s24.trans (((s25.trans s57).trans s28).trans s29)⟩
    · rintro σ H24 ⟨y10, y11, y12, y13, y14, rfl, s24⟩
      have g24 := g23.same s24
      exact ⟨_, _, _, _, _, _, _, _, _, _, _, _, _, _, rfl, sql_kb hS0 nsrc g24.k, g24.t⟩
  · rintro σ H2 ⟨y1, y2, y3, y4, y5, y6, y7, y8, y9, y10, y11, y12, y13, y14, rfl, _, _⟩
    exact q _
end
end K19

/-! the end: what the top has written, and the chain of promises -/
namespace K19
open PySem PySem.Spec PyProof.Rows L2 LamX
abbrev theLaw : PySem.W.OpenLaw := PySem.Challenge.rw_plainmoment_k19_whole_reaches_of_kept
theorem df_mk {K : PySem.W.Frag} {h : Heap} {mg : Str → Option Value} {x : Str} {st : Stmt} {ps : List Str} {f : Addr} {oc kV dc pm cd ct : Value} {od an : Option Addr} {sl : Array (Option Value)} (X : K.In h) (G : h.Ns mainGlobals mg)
    (a : PySem.W.nsIn K mainGlobals x = some (some (.ref f))) (l : K.lookup f = some ⟨oc, od, .func (PySem.W.fnOf x x (defArgs st) (defBody st) (defScope st) .none kV dc pm an cd ct), sl⟩) (c : PySem.W.codeIn K cd x = true) (k : PySem.W.keepIn K (.ref f) = true)
    (hb : ∀ (kV doc pm : Value) (an : Option Addr) (cdv ct : Value) (us : List Value), us.length = ps.length → bindArgs (PySem.W.fnOf x x (defArgs st) (defBody st) (defScope st) .none kV doc pm an cdv ct) ⟨us, []⟩ = pure (ps.zip us)) :
    Df K mg x st ps f (PySem.W.fnOf x x (defArgs st) (defBody st) (defScope st) .none kV dc pm an cd ct) :=
  have F := fun_mk (x := x) (qual := x) (st := st) l c k
  ⟨F, F.binds hb, PySem.W.mg_of X G a⟩
theorem err_mk {K : PySem.W.Frag} {h : Heap} {mg : Str → Option Value} {x : Str} {C D fI cc cda : Addr} {nm q : Str} {N : Addr} {bs bm : List Value} {sn : List Str} {sub : List Value} {ab : Bool} {col : Option Bool} {dd : Option Addr} {k0 k1 k2 k3 k5 : Option Value} {cdD : ClassData}
    {oc kV doc pm ct cl ccl : Value} {od an cld cdd : Option Addr} {osl csl ccs : Array (Option Value)} {vs : Array Value} {tf : Tok} (X : K.In h) (G : h.Ns mainGlobals mg)
    (aC : PySem.W.nsIn K mainGlobals x = some (some (.ref C))) (xC : K.lookup C = some (excClassObj nm q C N bs bm true sn sub ab col dd k0 k1 k2 k3 k5 "ValueError.__new__")) (aD : PySem.W.nsIn K mainGlobals "MomentError" = some (some (.ref D)))
    (sa : PySem.W.findIn K (.ref C) "__setattr__" = some (some (.builtin "object.__setattr__"))) (noT : PySem.W.findIn K (.ref C) "told" = some none) (iC : PySem.W.findIn K (.ref C) "__init__" = some (some (.ref fI)))
    (tC : PySem.W.typeIn K (.ref fI) = some (.type "function")) (kC : PySem.W.keepIn K (.ref C) = true) (exC : PySem.W.subIn K (.ref C) (.type "BaseException") = some true) (veC : PySem.W.subIn K (.ref C) (.type "ValueError") = some true)
    (tyC : PySem.W.typeIn K (.ref C) = some (.type "type")) (dC : PySem.W.clsIn K D = some cdD) (mC : PySem.W.mroIn K C (.ref D) = some true) (sup : PySem.W.ks_superIn K C D "__init__" = some (some (.builtin "ValueError.__init__")))
    (anyC : PySem.W.nsIn K cStatics "thirdparty.any" = some none) (gs : PySem.W.nsIn K mainGlobals "super" = some none)
    (lI : K.lookup fI = some ⟨oc, od, .func (PySem.W.ksFn "__init__" "MomentError.__init__" (L2.defArgs sInit) (L2.defBody sInit) (L2.defScope sInit) .none kV doc pm an (.ref cda) ct cc), osl⟩) (hI : PySem.W.codeIn K (.ref cda) "MomentError.__init__" = true)
    (lc : K.lookup cc = some ⟨cl, cld, .cell (some (.ref D)), csl⟩) (la : K.lookup cda = some ⟨ccl, cdd, .fields vs, ccs⟩) (hv : vs[2]? = some (.str theProg.main.file tf)) (hbm : PySem.HandSPX.refsVE bm = true) : ErrTxt K mg x C D fI cc cda :=
  { gC := PySem.W.mg_of X G aC, cls := ⟨nm, q, N, bs, bm, sn, sub, ab, col, dd, k0, k1, k2, k3, k5, xC, hbm⟩, sa := sa, noT := noT, iC := iC, tC := tC, kC := kC, exC := exC, veC := veC, tyC := tyC, dcl := ⟨_, dC⟩, sub := mC, sup := sup, any := anyC,
    gs := PySem.W.mg_none_of X G gs, cell := ⟨_, _, _, lc⟩, code := ⟨_, _, _, _, _, la, hv⟩, fn := ⟨_, _, _, _, _, _, _, _, lI, hI⟩ }
theorem six {K : PySem.W.Frag} {h : Heap} {mg : Str → Option Value} {v : Value} (KX : K.In h) (G : h.Ns mainGlobals mg) (a : PySem.W.nsIn K mainGlobals "MOST_STEPS" = some (some v)) (e : ∃ t, v = .int 600 t) : ∃ t, mg "MOST_STEPS" = some (.int 600 t) := by
  obtain ⟨t, rfl⟩ := e
  exact ⟨t, PySem.W.mg_of KX G a⟩
theorem exm_mk {K : PySem.W.Frag} {C : Addr} {cls : Value} {r : Bool} (h1 : PySem.W.subIn K (.ref C) (.type "BaseException") = some true) (h2 : PySem.W.isClsIn K C = true) (h3 : PySem.W.typeIn K (.ref C) = some (.type "type")) (h4 : PySem.W.subIn K cls (.ref C) = some r) :
    PySem.W.exmOne K cls (.ref C) = some r := by
  have e1 : (PySem.W.subIn K (.ref C) (.type "BaseException") == some true) = true := by rw [h1] <;> rfl
  have h2' : (PySem.W.clsIn K C).isSome = true := h2
  have e2 : ((PySem.W.clsIn K C).isSome && PySem.W.typeIn K (.ref C) == some (.type "type")) = true := by rw [h2', h3] <;> rfl
  show (if (PySem.W.subIn K (.ref C) (.type "BaseException") == some true) = true then (if ((PySem.W.clsIn K C).isSome && PySem.W.typeIn K (.ref C) == some (.type "type")) = true then PySem.W.subIn K cls (.ref C) else none) else none) = some r
  rw [if_pos e1, if_pos e2, h4]
theorem errs_mk {K : PySem.W.Frag} {mg : Str → Option Value} {CC Da fa cca cda CM Db fb ccb cdb : Addr} (T1 : ErrTxt K mg "NoCount" CC Da fa cca cda) (T2 : ErrTxt K mg "NoMoment" CM Db fb ccb cdb)
    (ga1 : PySem.W.findIn K (.ref CC) "__getattribute__" = some (some (.builtin "BaseException.__getattribute__"))) (gg1 : PySem.W.findIn K (.ref CC) "__getattr__" = some none) (hd1 : PySem.W.hasDictIn K CC = true)
    (ga2 : PySem.W.findIn K (.ref CM) "__getattribute__" = some (some (.builtin "BaseException.__getattribute__"))) (gg2 : PySem.W.findIn K (.ref CM) "__getattr__" = some none) (hd2 : PySem.W.hasDictIn K CM = true)
    (i1 : PySem.W.isClsIn K CC = true) (s1 : PySem.W.subIn K (.ref CC) (.ref CC) = some true) (i2 : PySem.W.isClsIn K CM = true) (s2 : PySem.W.subIn K (.ref CM) (.ref CC) = some false) (s3 : PySem.W.subIn K (.ref CM) (.ref CM) = some true) :
    ∃ CC Da fa cca cda CM Db fb ccb cdb, ErrTxt K mg "NoCount" CC Da fa cca cda ∧ ErrTxt K mg "NoMoment" CM Db fb ccb cdb ∧ ExcTxt K mg CC CM :=
  ⟨CC, Da, fa, cca, cda, CM, Db, fb, ccb, cdb, T1, T2, ⟨T1.gC, T2.gC, ⟨ga1, gg1, T1.exC, hd1⟩, ⟨ga2, gg2, T2.exC, hd2⟩, T1.noT, T2.noT, exm_mk T1.exC i1 T1.tyC s1, exm_mk T1.exC i1 T1.tyC s2, exm_mk T2.exC i2 T2.tyC s3⟩⟩
section
variable {w : World} {K : PySem.W.Frag} {h : Heap} {mg : Str → Option Value} {fa CC CM D fI cc cda D2 fI2 cc2 cda2 f31 c P : Addr} {f6 f7 f8 f10 f11 f12 f13 f14 f15 f16 f17 f18 f19 f20 f21 f23 f24 f25 f26 f27 f28 f29 f30 f32 : Addr} {d6 d7 d8 d10 d11 d12 d13 d14 d15 d16 d17 d18 d19 d20 d21 d23 d24 d25 d26 d27 d28 d29 d30 d32 : FuncData}
theorem law_at {oc kV doc pm ct : Value} {od an dd : Option Addr} {osl sl : Array (Option Value)} {vs : Array Value} (X : K.In h) (G : h.Ns mainGlobals mg) (hfa : mg "law" = some (.ref fa)) (B : Bt mg) (m6 : ∃ t, mg "MOST_STEPS" = some (.int 600 t))
    (TC : ErrTxt K mg "NoCount" CC D fI cc cda) (TM : ErrTxt K mg "NoMoment" CM D2 fI2 cc2 cda2) (XT : ExcTxt K mg CC CM)
    (D6 : Df K mg "is_whole" sWhole ["value"] f6 d6) (D7 : Df K mg "is_number" sNumber ["value", "low", "high"] f7 d7) (D8 : Df K mg "is_line" sLine ["value"] f8 d8)
    (D10 : Df K mg "check_last" sLast ["last"] f10 d10) (D11 : Df K mg "check_many" sMany ["many"] f11 d11) (D12 : Df K mg "check_moments" sMoms ["last", "moments", "from_first"] f12 d12)
    (D13 : Df K mg "nearest_on" sNearOn ["moments", "t"] f13 d13) (D14 : Df K mg "nearest_both" sNearBoth ["moments", "t"] f14 d14) (D15 : Df K mg "reach_on" sReachOn ["last", "moments"] f15 d15)
    (D16 : Df K mg "reach_both" sReachBoth ["last", "moments"] f16 d16) (D17 : Df K mg "ceiling_of" sCeil ["one", "other"] f17 d17) (D18 : Df K mg "least_on" sLeastOn ["last", "many"] f18 d18)
    (D19 : Df K mg "least_both" sLeastBoth ["last", "many"] f19 d19) (D20 : Df K mg "even_on" sEvenOn ["last", "many"] f20 d20) (D21 : Df K mg "even_both" sEvenBoth ["last", "many"] f21 d21)
    (D23 : Df K mg "_law_pool" sPool ["_law_script", "_law_k"] f23 d23) (D24 : Df K mg "_law_take" sTake ["_law_source", "_law_top"] f24 d24) (D25 : Df K mg "_law_one" sOne ["_law_source", "_law_things"] f25 d25)
    (D26 : Df K mg "_law_far" sFar ["_law_last", "_law_some", "_law_both"] f26 d26) (D27 : Df K mg "_law_choices" sChoices ["_law_last", "_law_many"] f27 d27) (D28 : Df K mg "_law_evens" sEvens ["_law_last", "_law_many"] f28 d28)
    (D29 : Df K mg "_law_called" sCalled ["_law_way", "_law_last", "_law_more"] f29 d29) (D30 : Df K mg "_law_heard" sHeard ["_law_call"] f30 d30) (D32 : Df K mg "law" sLaw ["_law_script"] f32 d32)
    (a31 : PySem.W.nsIn K mainGlobals "_law_refusals" = some (some (.ref f31))) (l31 : K.lookup f31 = some ⟨oc, od, .func (PySem.W.fnOf "_law_refusals" "_law_refusals" (defArgs sRef) (defBody sRef) (defScope sRef) .none kV doc pm an (.ref c) ct), osl⟩)
    (c31 : PySem.W.codeIn K (.ref c) "_law_refusals" = true) (k31 : PySem.W.keepIn K (.ref f31) = true) (lc : K.lookup c = some ⟨.type "code", dd, .fields vs, sl⟩) (hv : vs[11]? = some (.ref P)) (hd : PySem.W.codeHdIn K c P = true) (nP : K.lookup P = none) (tab : h.get? P = some { cls := .none, data := .fields #[] }) :
    LawAtS theLaw w K CX0 10 63 "_law_script" mg fa h := by
  have e := hfa.symm.trans D32.g
  cases e
  have D31 : Df K mg "_law_refusals" sRef ["_law_source", "_law_last"] f31 (PySem.W.fnOf "_law_refusals" "_law_refusals" (defArgs sRef) (defBody sRef) (defScope sRef) .none kV doc pm an (.ref c) ct) :=
    df_mk X G a31 l31 c31 k31 fun _ _ _ _ _ _ us hl => match us, hl with | [_, _], _ => rfl
  refine ⟨d32, [(c, P)], spLaw K P, fun p hp => ?_, fun p hp => ?_, fun p hp => ?_, ?_, fun H a ns hl _ hT hS => ?_, fun base KB GB TB => ?_⟩
  · rcases List.mem_cons.mp hp with rfl | hp
    · exact tab
    · cases hp
  · rcases List.mem_cons.mp hp with rfl | hp
    · exact nP
    · cases hp
  · rcases List.mem_cons.mp hp with rfl | hp
    · exact PySem.W.codeHd_of_K X hd
    · cases hp
  · obtain ⟨_, _, _, _, _, _, _, _, _, rfl, _, _⟩ := D32.F.ex
    exact fun s u => .of_eq rfl
  · refine ⟨a, ns, rfl, hS, hl, fun p hp => ?_, fun _ => rfl⟩
    rcases List.mem_cons.mp hp with rfl | hp
    · exact TabS.nil (hT (c, P) (List.mem_cons_self ..))
    · cases hp
  · have TP := TB (c, P) (List.mem_cons_self ..)
    have G6 : FnOk theProg w K mg base CX0 1 f6 d6 ["value"] spWhole := ok_whole B D6
    have G7 : FnOk theProg w K mg base CX0 2 f7 d7 ["value", "low", "high"] spNumber := ok_number D7 D6 G6
    have G8 : FnOk theProg w K mg base CX0 1 f8 d8 ["value"] spLine := ok_line B D8
    have G10 : FnOk theProg w K mg base (L2.CX theProg w) 3 f10 d10 ["last"] (spLast CC) := ok_last TC m6 D10 D7 G7
    have G11 : FnOk theProg w K mg base (L2.CX theProg w) 3 f11 d11 ["many"] (spMany CC) := ok_many TC D11 D6 G6
    have G12 : FnOk theProg w K mg base (L2.CX theProg w) 3 f12 d12 ["last", "moments", "from_first"] (spMoms CM) := ok_moms B TM D12 D7 G7 D8 G8
    have G13 : FnOk theProg w K mg base CX0 1 f13 d13 ["moments", "t"] spNearOn := ok_near_on B D13
    have G14 : FnOk theProg w K mg base CX0 1 f14 d14 ["moments", "t"] spNearBoth := ok_near_both B D14
    have G15 : FnOk theProg w K mg base (L2.CX theProg w) 4 f15 d15 ["last", "moments"] (spReach true reachOn CC CM) := ok_reach_on B D15 D10 G10 D12 G12 D13 G13
    have G16 : FnOk theProg w K mg base (L2.CX theProg w) 4 f16 d16 ["last", "moments"] (spReach false reachBoth CC CM) := ok_reach_both B D16 D10 G10 D12 G12 D14 G14
    have G17 : FnOk theProg w K mg base CX0 1 f17 d17 ["one", "other"] spCeil := ok_ceil D17
    have G18 : FnOk theProg w K mg base (L2.CX theProg w) 4 f18 d18 ["last", "many"] (spLeast leastOn CC) := ok_least_on D18 D10 G10 D11 G11 D17 G17
    have G19 : FnOk theProg w K mg base (L2.CX theProg w) 4 f19 d19 ["last", "many"] (spLeast leastBoth CC) := ok_least_both B D19 D10 G10 D11 G11 D17 G17
    have G20 : FnOk theProg w K mg base (L2.CX theProg w) 5 f20 d20 ["last", "many"] (spEven evenOn CC) := ok_even_on B D20 D18 G18
    have G21 : FnOk theProg w K mg base (L2.CX theProg w) 5 f21 d21 ["last", "many"] (spEven evenBoth CC) := ok_even_both B D21 D19 G19
    have G23 : FnOk theProg w K mg base CX0 1 f23 d23 ["_law_script", "_law_k"] (spPool K) := ok_pool B D23
    have G24 : FnOk theProg w K mg base CX0 1 f24 d24 ["_law_source", "_law_top"] spTake := ok_take B D24
    have G25 : FnOk theProg w K mg base CX0 2 f25 d25 ["_law_source", "_law_things"] spOne := ok_one B D25 D24 G24
    have G26 : FnOk theProg w K mg base CX0 1 f26 d26 ["_law_last", "_law_some", "_law_both"] spFar := ok_far B D26
    have G27 : FnOk theProg w K mg base CX0 1 f27 d27 ["_law_last", "_law_many"] spChoices := ok_choices B D27
    have G28 : FnOk theProg w K mg base CX0 5 f28 d28 ["_law_last", "_law_many"] spEvens := ok_evens B D28 D18 G18 D19 G19
    have G29 : FnOk theProg w K mg base (L2.CX theProg w) 6 f29 d29 ["_law_way", "_law_last", "_law_more"] (spCalled CC) := ok_called D29 D18 G18 D19 G19 D20 G20 D21 G21 D15 G15 D16 G16
    have G31 : FnOk theProg w K mg base CX0 9 f31 _ ["_law_source", "_law_last"] (spRef P) := ok_ref B XT TP l31 c31 D30 D25 G25 D29 G29 D15 G15 D16 G16
    exact ok_law B D32 D23 G23 D24 G24 D25 G25 D26 G26 D27 G27 D28 G28 D31 G31 D15 G15 D16 G16 D18 G18 D19 G19 D20 G20 D21 G21
end
end K19
open PySem PySem.W PyProof.Rows
set_option maxHeartbeats 0 in
theorem PySem.Challenge.cw_plainmoment_k19_whole_reaches_of_kept_holds : PySem.Challenge.rw_plainmoment_k19_whole_reaches_of_kept.Holds := by
  w_on; o_law; k_head; (case hw => w_witness2)
  k_fill
  refine LamX.walk_ofTs (l := K19.theLaw) (n := 63) (k := 10) (x := "_law_script") (CX := fun _ => L2.CX0) rfl (by decide) rfl ⟨rfl, by decide, by decide⟩ (fun w h Y => PySem.W.km_in_of Y) ?F (fun _ _ _ _ _ z => z)
  case F =>
    intro w mg fa h Y KX G hmg
    obtain ⟨f6, d6, D6⟩ : ∃ f fd, K19.Df _ mg "is_whole" K19.sWhole ["value"] f fd := by
      refine' ⟨_, _, K19.df_mk KX G ?a ?l ?c ?k fun _ _ _ _ _ _ us hl => match us, hl with | [_], _ => rfl⟩
      (case a => k_is); (case l => k_is); (case c => k_is); (case k => k_is)
    obtain ⟨f7, d7, D7⟩ : ∃ f fd, K19.Df _ mg "is_number" K19.sNumber ["value", "low", "high"] f fd := by
      refine' ⟨_, _, K19.df_mk KX G ?a ?l ?c ?k fun _ _ _ _ _ _ us hl => match us, hl with | [_, _, _], _ => rfl⟩
      (case a => k_is); (case l => k_is); (case c => k_is); (case k => k_is)
    obtain ⟨f8, d8, D8⟩ : ∃ f fd, K19.Df _ mg "is_line" K19.sLine ["value"] f fd := by
      refine' ⟨_, _, K19.df_mk KX G ?a ?l ?c ?k fun _ _ _ _ _ _ us hl => match us, hl with | [_], _ => rfl⟩
      (case a => k_is); (case l => k_is); (case c => k_is); (case k => k_is)
    obtain ⟨f10, d10, D10⟩ : ∃ f fd, K19.Df _ mg "check_last" K19.sLast ["last"] f fd := by
      refine' ⟨_, _, K19.df_mk KX G ?a ?l ?c ?k fun _ _ _ _ _ _ us hl => match us, hl with | [_], _ => rfl⟩
      (case a => k_is); (case l => k_is); (case c => k_is); (case k => k_is)
    obtain ⟨f11, d11, D11⟩ : ∃ f fd, K19.Df _ mg "check_many" K19.sMany ["many"] f fd := by
      refine' ⟨_, _, K19.df_mk KX G ?a ?l ?c ?k fun _ _ _ _ _ _ us hl => match us, hl with | [_], _ => rfl⟩
      (case a => k_is); (case l => k_is); (case c => k_is); (case k => k_is)
    obtain ⟨f12, d12, D12⟩ : ∃ f fd, K19.Df _ mg "check_moments" K19.sMoms ["last", "moments", "from_first"] f fd := by
      refine' ⟨_, _, K19.df_mk KX G ?a ?l ?c ?k fun _ _ _ _ _ _ us hl => match us, hl with | [_, _, _], _ => rfl⟩
      (case a => k_is); (case l => k_is); (case c => k_is); (case k => k_is)
    obtain ⟨f13, d13, D13⟩ : ∃ f fd, K19.Df _ mg "nearest_on" K19.sNearOn ["moments", "t"] f fd := by
      refine' ⟨_, _, K19.df_mk KX G ?a ?l ?c ?k fun _ _ _ _ _ _ us hl => match us, hl with | [_, _], _ => rfl⟩
      (case a => k_is); (case l => k_is); (case c => k_is); (case k => k_is)
    obtain ⟨f14, d14, D14⟩ : ∃ f fd, K19.Df _ mg "nearest_both" K19.sNearBoth ["moments", "t"] f fd := by
      refine' ⟨_, _, K19.df_mk KX G ?a ?l ?c ?k fun _ _ _ _ _ _ us hl => match us, hl with | [_, _], _ => rfl⟩
      (case a => k_is); (case l => k_is); (case c => k_is); (case k => k_is)
    obtain ⟨f15, d15, D15⟩ : ∃ f fd, K19.Df _ mg "reach_on" K19.sReachOn ["last", "moments"] f fd := by
      refine' ⟨_, _, K19.df_mk KX G ?a ?l ?c ?k fun _ _ _ _ _ _ us hl => match us, hl with | [_, _], _ => rfl⟩
      (case a => k_is); (case l => k_is); (case c => k_is); (case k => k_is)
    obtain ⟨f16, d16, D16⟩ : ∃ f fd, K19.Df _ mg "reach_both" K19.sReachBoth ["last", "moments"] f fd := by
      refine' ⟨_, _, K19.df_mk KX G ?a ?l ?c ?k fun _ _ _ _ _ _ us hl => match us, hl with | [_, _], _ => rfl⟩
      (case a => k_is); (case l => k_is); (case c => k_is); (case k => k_is)
    obtain ⟨f17, d17, D17⟩ : ∃ f fd, K19.Df _ mg "ceiling_of" K19.sCeil ["one", "other"] f fd := by
      refine' ⟨_, _, K19.df_mk KX G ?a ?l ?c ?k fun _ _ _ _ _ _ us hl => match us, hl with | [_, _], _ => rfl⟩
      (case a => k_is); (case l => k_is); (case c => k_is); (case k => k_is)
    obtain ⟨f18, d18, D18⟩ : ∃ f fd, K19.Df _ mg "least_on" K19.sLeastOn ["last", "many"] f fd := by
      refine' ⟨_, _, K19.df_mk KX G ?a ?l ?c ?k fun _ _ _ _ _ _ us hl => match us, hl with | [_, _], _ => rfl⟩
      (case a => k_is); (case l => k_is); (case c => k_is); (case k => k_is)
    obtain ⟨f19, d19, D19⟩ : ∃ f fd, K19.Df _ mg "least_both" K19.sLeastBoth ["last", "many"] f fd := by
      refine' ⟨_, _, K19.df_mk KX G ?a ?l ?c ?k fun _ _ _ _ _ _ us hl => match us, hl with | [_, _], _ => rfl⟩
      (case a => k_is); (case l => k_is); (case c => k_is); (case k => k_is)
    obtain ⟨f20, d20, D20⟩ : ∃ f fd, K19.Df _ mg "even_on" K19.sEvenOn ["last", "many"] f fd := by
      refine' ⟨_, _, K19.df_mk KX G ?a ?l ?c ?k fun _ _ _ _ _ _ us hl => match us, hl with | [_, _], _ => rfl⟩
      (case a => k_is); (case l => k_is); (case c => k_is); (case k => k_is)
    obtain ⟨f21, d21, D21⟩ : ∃ f fd, K19.Df _ mg "even_both" K19.sEvenBoth ["last", "many"] f fd := by
      refine' ⟨_, _, K19.df_mk KX G ?a ?l ?c ?k fun _ _ _ _ _ _ us hl => match us, hl with | [_, _], _ => rfl⟩
      (case a => k_is); (case l => k_is); (case c => k_is); (case k => k_is)
    obtain ⟨f23, d23, D23⟩ : ∃ f fd, K19.Df _ mg "_law_pool" K19.sPool ["_law_script", "_law_k"] f fd := by
      refine' ⟨_, _, K19.df_mk KX G ?a ?l ?c ?k fun _ _ _ _ _ _ us hl => match us, hl with | [_, _], _ => rfl⟩
      (case a => k_is); (case l => k_is); (case c => k_is); (case k => k_is)
    obtain ⟨f24, d24, D24⟩ : ∃ f fd, K19.Df _ mg "_law_take" K19.sTake ["_law_source", "_law_top"] f fd := by
      refine' ⟨_, _, K19.df_mk KX G ?a ?l ?c ?k fun _ _ _ _ _ _ us hl => match us, hl with | [_, _], _ => rfl⟩
      (case a => k_is); (case l => k_is); (case c => k_is); (case k => k_is)
    obtain ⟨f25, d25, D25⟩ : ∃ f fd, K19.Df _ mg "_law_one" K19.sOne ["_law_source", "_law_things"] f fd := by
      refine' ⟨_, _, K19.df_mk KX G ?a ?l ?c ?k fun _ _ _ _ _ _ us hl => match us, hl with | [_, _], _ => rfl⟩
      (case a => k_is); (case l => k_is); (case c => k_is); (case k => k_is)
    obtain ⟨f26, d26, D26⟩ : ∃ f fd, K19.Df _ mg "_law_far" K19.sFar ["_law_last", "_law_some", "_law_both"] f fd := by
      refine' ⟨_, _, K19.df_mk KX G ?a ?l ?c ?k fun _ _ _ _ _ _ us hl => match us, hl with | [_, _, _], _ => rfl⟩
      (case a => k_is); (case l => k_is); (case c => k_is); (case k => k_is)
    obtain ⟨f27, d27, D27⟩ : ∃ f fd, K19.Df _ mg "_law_choices" K19.sChoices ["_law_last", "_law_many"] f fd := by
      refine' ⟨_, _, K19.df_mk KX G ?a ?l ?c ?k fun _ _ _ _ _ _ us hl => match us, hl with | [_, _], _ => rfl⟩
      (case a => k_is); (case l => k_is); (case c => k_is); (case k => k_is)
    obtain ⟨f28, d28, D28⟩ : ∃ f fd, K19.Df _ mg "_law_evens" K19.sEvens ["_law_last", "_law_many"] f fd := by
      refine' ⟨_, _, K19.df_mk KX G ?a ?l ?c ?k fun _ _ _ _ _ _ us hl => match us, hl with | [_, _], _ => rfl⟩
      (case a => k_is); (case l => k_is); (case c => k_is); (case k => k_is)
    obtain ⟨f29, d29, D29⟩ : ∃ f fd, K19.Df _ mg "_law_called" K19.sCalled ["_law_way", "_law_last", "_law_more"] f fd := by
      refine' ⟨_, _, K19.df_mk KX G ?a ?l ?c ?k fun _ _ _ _ _ _ us hl => match us, hl with | [_, _, _], _ => rfl⟩
      (case a => k_is); (case l => k_is); (case c => k_is); (case k => k_is)
    obtain ⟨f30, d30, D30⟩ : ∃ f fd, K19.Df _ mg "_law_heard" K19.sHeard ["_law_call"] f fd := by
      refine' ⟨_, _, K19.df_mk KX G ?a ?l ?c ?k fun _ _ _ _ _ _ us hl => match us, hl with | [_], _ => rfl⟩
      (case a => k_is); (case l => k_is); (case c => k_is); (case k => k_is)
    obtain ⟨f32, d32, D32⟩ : ∃ f fd, K19.Df _ mg "law" K19.sLaw ["_law_script"] f fd := by
      refine' ⟨_, _, K19.df_mk KX G ?a ?l ?c ?k fun _ _ _ _ _ _ us hl => match us, hl with | [_], _ => rfl⟩
      (case a => k_is); (case l => k_is); (case c => k_is); (case k => k_is)
    have B : K19.Bt mg := by
      refine' ⟨mg_none_of KX G ?b0, mg_none_of KX G ?b1, mg_none_of KX G ?b2, mg_none_of KX G ?b3, mg_none_of KX G ?b4, mg_none_of KX G ?b5, mg_none_of KX G ?b6, mg_none_of KX G ?b7, mg_none_of KX G ?b8, mg_none_of KX G ?b9⟩
      (case b0 => k_is); (case b1 => k_is); (case b2 => k_is); (case b3 => k_is); (case b4 => k_is); (case b5 => k_is); (case b6 => k_is); (case b7 => k_is); (case b8 => k_is); (case b9 => k_is)
    have m6 : ∃ t, mg "MOST_STEPS" = some (.int 600 t) := by
      refine' K19.six KX G ?a ?e
      (case a => k_is)
      exact ⟨_, rfl⟩
    obtain ⟨CC, Da, fa1, cca, cda, CM, Db, fb1, ccb, cdb, TCC, TCM, XT⟩ : ∃ CC Da fa cca cda CM Db fb ccb cdb, K19.ErrTxt _ mg "NoCount" CC Da fa cca cda ∧ K19.ErrTxt _ mg "NoMoment" CM Db fb ccb cdb ∧ K19.ExcTxt _ mg CC CM := by
      refine' K19.errs_mk (K19.err_mk KX G ?aC1 ?xC1 ?aD1 ?sa1 ?noT1 ?iC1 ?tC1 ?kC1 ?exC1 ?veC1 ?tyC1 ?dC1 ?mC1 ?sup1 ?anyC1 ?gs1 ?lI1 ?hI1 ?lc1 ?la1 ?hv1 ?hbm1) (K19.err_mk KX G ?aC2 ?xC2 ?aD2 ?sa2 ?noT2 ?iC2 ?tC2 ?kC2 ?exC2 ?veC2 ?tyC2 ?dC2 ?mC2 ?sup2 ?anyC2 ?gs2 ?lI2 ?hI2 ?lc2 ?la2 ?hv2 ?hbm2) ?ga1 ?gg1 ?hd1 ?ga2 ?gg2 ?hd2 ?i1 ?s1 ?i2 ?s2 ?s3
      (case aC1 => k_is)
      (case xC1 => k_is)
      (case aD1 => k_is)
      (case sa1 => k_is)
      (case noT1 => k_is)
      (case iC1 => k_is)
      (case tC1 => k_is)
      (case kC1 => k_is)
      (case exC1 => k_is)
      (case veC1 => k_is)
      (case tyC1 => k_is)
      (case dC1 => k_is)
      (case mC1 => k_is)
      (case sup1 => ks_is)
      (case anyC1 => k_is)
      (case gs1 => k_is)
      (case lI1 => k_is)
      (case hI1 => k_is)
      (case lc1 => k_is)
      (case la1 => k_is)
      (case hv1 => rfl)
      (case hbm1 => decide +kernel)
      (case aC2 => k_is)
      (case xC2 => k_is)
      (case aD2 => k_is)
      (case sa2 => k_is)
      (case noT2 => k_is)
      (case iC2 => k_is)
      (case tC2 => k_is)
      (case kC2 => k_is)
      (case exC2 => k_is)
      (case veC2 => k_is)
      (case tyC2 => k_is)
      (case dC2 => k_is)
      (case mC2 => k_is)
      (case sup2 => ks_is)
      (case anyC2 => k_is)
      (case gs2 => k_is)
      (case lI2 => k_is)
      (case hI2 => k_is)
      (case lc2 => k_is)
      (case la2 => k_is)
      (case hv2 => rfl)
      (case hbm2 => decide +kernel)
      (case ga1 => k_is)
      (case gg1 => k_is)
      (case hd1 => k_is)
      (case ga2 => k_is)
      (case gg2 => k_is)
      (case hd2 => k_is)
      (case i1 => k_is)
      (case s1 => k_is)
      (case i2 => k_is)
      (case s2 => k_is)
      (case s3 => k_is)
    refine' K19.law_at KX G hmg B m6 TCC TCM XT D6 D7 D8 D10 D11 D12 D13 D14 D15 D16 D17 D18 D19 D20 D21 D23 D24 D25 D26 D27 D28 D29 D30 D32 ?a31 ?l31 ?c31 ?k31 ?lc ?hv ?hd ?nP (PySem.W.km_tabs_of Y _ ?tm)
    (case a31 => k_is); (case l31 => k_is); (case c31 => k_is); (case k31 => k_is); (case lc => k_is); (case hv => rfl); (case hd => kernel_rfl); (case nP => kernel_rfl); (case tm => exact List.mem_cons_self ..)
