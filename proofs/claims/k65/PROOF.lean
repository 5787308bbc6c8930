import PyProof.Rows.All
import Wide.All
import OpenK.AllK
import Wide.FinOn
import KE.KExcSuper
import HandS.ForExc
import HandS.ExcCtx
import HandS.Hot
import HandS.HotCalls
import HandS.SuiteRaise
import HandS.RaiseFrom
import PySem.Challenge.RW_joinedends_k65_whole_no_derivation_of_wh
import HandS.ForMost
import HandS.SetFor
import HandS.Strs
import KE.KStateDown
import HandS.Defaults
import HandS.IsInst
import HandS.TupAny
import HandS.HeadHook1
import HandS.HeadHook2
import HandS.TupLe
import Lean
import HandS.Head0
import HandS.Head1
import HandS.Head2
import HandS.HeadEnd
set_option Elab.async false
set_option linter.all false
set_option maxRecDepth 100000
set_option maxHeartbeats 4000000
namespace K65
open PySem PySem.W PySem.Calls PyProof.Rows PySem.HandSPX
/-! ### BadStep: its text, its __init__ walked -/
abbrev PWk : Program := PySem.Challenge.pw_joinedends_k65_whole_no_derivation_of_wh
def top (i : Nat) : Stmt := PWk.main.body.getD i (.Pass ⟨0, 0, 0, 0⟩)
abbrev sBad : Stmt := L2.inClass (top 2) 0
def biA : Arguments := L2.defArgs sBad
def biB : List Stmt := L2.defBody sBad
def biS : Scope := L2.defScope sBad
/-- what the written part says of BadStep, at C, and of its __init__, at fI -/
structure BadTxt (prog : Program) (K : Frag) (mg : Str → Option Value) (C fI : Addr) : Prop where
  gC : mg "BadStep" = some (.ref C)
  cls : ∃ nm q N bs bm sn sub ab col dd k0 k1 k2 k3 k5, K.lookup C = some (excClassObj nm q C N bs bm true sn sub ab col dd k0 k1 k2 k3 k5 "ValueError.__new__") ∧ refsVE bm = true
  sa : findIn K (.ref C) "__setattr__" = some (some (.builtin "object.__setattr__"))
  noN : findIn K (.ref C) "number" = some none
  iC : findIn K (.ref C) "__init__" = some (some (.ref fI))
  tC : typeIn K (.ref fI) = some (.type "function")
  kC : keepIn K (.ref C) = true
  exC : subIn K (.ref C) (.type "BaseException") = some true
  tyC : typeIn K (.ref C) = some (.type "type")
  ve : subIn K (.ref C) (.type "ValueError") = some true
  self : mroIn K C (.ref C) = some true
  su : ks_superIn K C C "__init__" = some (some (.builtin "ValueError.__init__"))
  te : exmOne K (.ref C) (.ref C) = some true
  noS : mg "super" = none
  thp : nsIn K cStatics "thirdparty.any" = some none
  main : (prog.main.scope.names.lookup ("super" : Str)).isSome = false
  fn : ∃ (oc : Value) (od : Option Addr) (kV doc pm : Value) (an : Option Addr) (cdv ct : Value) (osl : Array (Option Value)) (cc : Addr) (ocell : Obj) (cda : Addr) (ocode : Obj) (vs : Array Value) (file : Str) (tf : Tok),
    K.lookup fI = some ⟨oc, od, .func (ksFn "__init__" "BadStep.__init__" biA biB biS .none kV doc pm an cdv ct cc), osl⟩ ∧ codeIn K cdv "BadStep.__init__" = true ∧
    K.lookup cc = some ocell ∧ ocell.data = .cell (some (.ref C)) ∧ cdv = .ref cda ∧ K.lookup cda = some ocode ∧ ocode.data = .fields vs ∧ vs[2]? = some (.str file tf) ∧ ((prog.main.file : Str) == file) = true
/-- what __init__ leaves of a fresh exception at x -/
structure BadEnd (h h' : Heap) (x C dx : Addr) (v : Value) : Prop where
  keep : ∀ b o, b ≠ x → h.get? b = some o → h'.get? b = some o
  obj : ∃ t1 : Addr, h'.get? x = some { cls := .ref C, dict := some dx, data := .fields #[.ref t1, .none, .none, .none, .bool false, .none] }
  dbig : h.objs.size ≤ dx
  dne : dx ≠ x
  ns : h'.Ns1 dx (fun y => if y = "number" then some v else none)
section
variable {prog : Program} {w : World} {M : Model} {A : Around} {E : Value → Shared → Prop} {R : Result → Shared → Prop} {s : Shared} {K : Frag} {mg mb : Str → Option Value} {C fI : Addr}
theorem ld_loc {name : Str} {scope : Scope} {L a : Addr} {cd : Value} {cl : List (Str × Addr)} {m : Str → Option Value} {x : Str} {pos : Pos} {v : Value} {Q : Value → Shared → Prop} (hn : s.heap.Ns L m) (hv : m x = some v) (h : Q v s)
    (hk : scope.kind = .function := by rfl) (hl : (envX name scope L a cd cl).kindOf x = some .local := by rfl) (hd : (x == ("__debug__" : Str)) = false := by decide) :
    wpAny M A (eval (.Name x pos) (envX name scope L a cd cl)) Q E s := wpAny_Name (wpAny_loadName_local hk hl hn hv h) hd
/-- the method-wrapper ValueError.__init__ of x, called -/
theorem call_mw {u x t0 : Addr} {rest : List Value} {Q : Value → Shared → Prop} {nm q : Str} {N : Addr} {bs bm : List Value} {sn : List Str} {sub : List Value} {ab : Bool} {col : Option Bool} {dd : Option Addr} {k0 k1 k2 k3 k5 : Option Value}
    (hC : s.heap.get? C = some (excClassObj nm q C N bs bm true sn sub ab col dd k0 k1 k2 k3 k5 "ValueError.__new__")) (hx : s.heap.get? x = some (excO C t0)) (hu : s.heap.get? u = some (kxs_mw "ValueError.__init__" x)) (hz : rest.length ≤ sizeLine)
    (hq : ∀ h' t1, (∀ b o, b ≠ x → s.heap.get? b = some o → h'.get? b = some o) → h'.get? x = some (excO C t1) → Q .none { s with heap := h' }) :
    wpAny (model prog w) A (call (.ref u) rest) Q E s := by
  obtain ⟨hh, g, d, t, os⟩ := s
  refine wpAny_call (codeAny_of_tree ?_)
  show wpAny _ A.in1 (callAny (.ref u) ⟨rest, []⟩) _ _ _
  simp only [callAny]
  refine wpAny_bind (wpAny_load hu ?_)
  simp only [kxs_mw, show (Value.type "method-wrapper" == Value.type "method" || Value.type "method-wrapper" == Value.type "builtin_function_or_method" || Value.type "method-wrapper" == Value.type "method-wrapper") = true by decide, if_true]
  refine KFB.if_so (by decide) ?_
  refine wpAny_bind (check_bound_init F.excBase_ValueError.toExcCallFacts hC hx rfl ?_)
  refine wpAny_bind (wpAny_pure (wpAny_pure ?_))
  refine ⟨plainId_quiet F.excBase_ValueError.init.plain _, codeAny_builtin F.excBase_ValueError.initEntry ?_⟩
  rw [Around.under_plainId F.excBase_ValueError.init.plain _]
  wp_walk
  refine hq _ hh.objs.size (fun b o hb ho => ?_) ?_
  · rw [Heap.get?_update_other _ _ (Ne.symm hb)]
    exact Heap.get?_push_of_some _ ho
  · rw [Heap.get?_update_self _ (Heap.get?_push_of_some _ hx) rfl]
    rfl
theorem bad_init (T : BadTxt prog K mg C fI) {x t0 : Addr} {v : Value} (X : K.In s.heap) (G : s.heap.Ns mainGlobals mg) (B : s.heap.Ns builtinsNs mb) (hb : mb "super" = some (.type "super")) (hlim : s.heap.NoLimit)
    (hx : s.heap.get? x = some (excO C t0)) (hnx : K.lookup x = none) (hroom : A.depth < recursionLimit)
    (hq : ∀ h' tk dx, BadEnd s.heap h' x C dx v → R (.ok (.ret .none)) { s with heap := h', toks := tk }) :
    codeAny (model prog w) A (.call (.ref fI) ⟨[.ref x, v], []⟩) R s := by
  obtain ⟨oc, od, kV, doc, pm, an, cdv, ct, osl, cc, ocell, cda, ocode, vs, file, tf, ho, hcd, hcell, hcelld, rfl, hcode, hcoded, hvs, hfile⟩ := T.fn
  obtain ⟨nm, q, N, bs, bm, sn, sub, ab, col, dd, k0, k1, k2, k3, k5, hC, hbm⟩ := T.cls
  have hcl : clsIn K C = some { name := nm, bases := bs, mro := .ref C :: bm, ns := N, qualname := q, hasDict := true, slotNames := sn, subclasses := sub, abstract := ab, collection := col, hasDel := false } := by unfold clsIn; rw [hC] <;> rfl
  have nocell : ∀ y ∈ biS.names, y.2 ≠ .cell := by decide +kernel
  have hbi : BindsTo s (ksFn "__init__" "BadStep.__init__" biA biB biS .none kV doc pm an (.ref cda) ct cc) ⟨[.ref x, v], []⟩ [("self", .ref x), ("number", v)] := BindsTo.of_eq (by first | rfl | with_unfolding_all rfl)
  have hlo : ∀ y ∈ ([("self", .ref x), ("number", v)] : List (Str × Value)), biS.names.lookup y.1 = some .local := by
    intro y hy
    rcases List.mem_cons.mp hy with e | hy
    · rw [e]; rfl
    · rcases List.mem_cons.mp hy with e | hy
      · rw [e]; rfl
      · cases hy
  refine ks_codeAny_call_defAt (fd := ksFn "__init__" "BadStep.__init__" biA biB biS .none kV doc pm an (.ref cda) ct cc) (body := biB) (binds := [("self", .ref x), ("number", v)]) hroom (X _ _ ho) rfl hlim (codeRec_of X hcd) rfl
    hbi nocell hlo (fun h₁ hns k => ?_) rfl rfl rfl
  have X₁ : K.In h₁ := X.keeps k
  have hx₁ := k _ _ hx
  have hxL : s.heap.objs.size ≠ x := Nat.ne_of_gt (Heap.lt_size hx)
  have hs : (fun y => List.lookup y ([("self", Value.ref x), ("number", v)] : List (Str × Value)).reverse) "self" = some (.ref x) := by rfl
  have hv : (fun y => List.lookup y ([("self", Value.ref x), ("number", v)] : List (Str × Value)).reverse) "number" = some v := by rfl
  generalize hm : (fun y => List.lookup y ([("self", Value.ref x), ("number", v)] : List (Str × Value)).reverse) = m at hns hs hv
  have hxC : x ≠ C := fun e => by
    have e2 := X _ _ hC
    rw [← e, hx] at e2
    cases e2
  have I₁ : InstAt h₁ x (excO C t0) C none := ⟨hx₁, rfl, rfl, trivial⟩
  refine ks_wpAt_execs_cons (ks_wpAt_Expr_any (ks_wpAt_MethodCall ?_))
  refine ks_wpAt_super_base (env := ksEnv "BadStep.__init__" biS s.heap.objs.size fI (.ref cda) cc) (by rfl) (by rfl) (by decide) rfl (X₁ _ _ ho) rfl rfl rfl (X₁ _ _ hcode) hcoded hvs hfile T.main ?_
  refine ks_loadName_global rfl (by rfl) (loadGlobal_builtin (env := ksEnv "BadStep.__init__" biS s.heap.objs.size fI (.ref cda) cc) (G.keeps k) T.noS (B.keeps k) hb ⟨rfl, ?_⟩)
  refine wpAny_loadName_free rfl (by rfl) rfl ⟨_, X₁ _ _ hcell, hcelld⟩ ?_
  refine wpAny_loadName_local rfl (by rfl) hns hs ?_
  refine ks_wpAny_isType_cls (X₁ _ _ hC) rfl ⟨rfl, ?_⟩
  refine ks_wpAny_call_super (X₁ _ _ hC) rfl hx₁ rfl (fun c e => by cases e) (looks_mroIn X₁ T.self) (fun h₂ e k₂ => ?_)
  have k12 : ∀ b o, s.heap.get? b = some o → h₂.get? b = some o := fun b o z => k₂ b o (k b o z)
  have X₂ : K.In h₂ := X.keeps k12
  have I₂ : InstAt h₂ x (excO C t0) C none := ⟨k12 _ _ hx, rfl, rfl, trivial⟩
  have hsu : alongIn K "__init__" (((Value.ref C :: bm).dropWhile (· != .ref C)).drop 1) = some (some (.builtin "ValueError.__init__")) := by
    have hm := T.su
    unfold ks_superIn at hm
    rw [hcl] at hm
    exact hm
  have hI : W.Looks (model prog w) h₂ (isInstance (.ref x) (.type "ValueError")) true := I₂.type.andThen (looks_subIn X₂ T.ve)
  refine kxs_getMethod kxs_ValueError e (looks_opaque X₂ T.thp) (l₀ := .ref C :: bm) (fun A Q E s k q => wpAny_bind ((looks_clsIn X₂ hcl) A _ E s k (wpAny_pure q))) rfl X₂ hsu hI hxC (by decide) ?_
  refine kxs_callWith (i := "ValueError.__init__") (x := x) (by rfl) ?_
  have hmw : (h₂.push (kxs_mw "ValueError.__init__" x)).get? h₂.objs.size = some (kxs_mw "ValueError.__init__" x) := Heap.get?_push_size _ rfl
  have k13 : ∀ b o, s.heap.get? b = some o → (h₂.push (kxs_mw "ValueError.__init__" x)).get? b = some o := fun b o z => Heap.get?_push_of_some _ (k12 b o z)
  refine evalArgs_plain (rest := []) (spliced_cons (wpAny_Constant_str (k := 0) (pos := ⟨0, 0, 0, 0⟩) (spliced_nil ⟨hmw, ?_⟩)))
  refine call_mw (s := { heap := h₂.push (kxs_mw "ValueError.__init__" x), gens := s.gens, drawn := s.drawn, toks := _, os := s.os }) (k13 _ _ (X _ _ hC)) (k13 _ _ hx) hmw (by rw [sizeLine_eq]; show (1 : Nat) ≤ 16777216; decide) (fun h₃ t3 k₃ hx₃ => ?_)
  have k14 : ∀ b o, b ≠ x → s.heap.get? b = some o → h₃.get? b = some o := fun b o hb z => k₃ b o hb (k13 b o z)
  have X₃ : K.In h₃ := fun b o z => k14 b o (fun y => by rw [y, hnx] at z; cases z) (X _ _ z)
  have hns₃ : h₃.Ns s.heap.objs.size m := hns.at fun o z => k₃ _ o hxL (Heap.get?_push_of_some _ (k₂ _ o z))
  refine ks_wpAt_execs_cons (ks_wpAt_Assign_Attr (wpAt_of_wpAny (ld_loc (v := v) hns₃ hv (ld_loc (v := .ref x) hns₃ hs ?_))))
  refine set_plain X₃ (ox := excO C t3) (od := none) ⟨hx₃, rfl, rfl, trivial⟩ T.sa ?_
  refine exc_osa X₃ hx₃ hcl (show refsVE (.ref C :: bm) = true from hbm) rfl T.noN (fun h₄ tk₄ dx k₄ dn dne hx₄ hn₄ => ?_)
  have lt3 : s.heap.objs.size < h₃.objs.size := hns₃.lt
  refine wpAt_of_wpAny (wpAny_execs_nil (hq h₄ tk₄ dx ⟨fun b o hb e => k₄ b o hb (k14 b o hb e), ⟨_, hx₄⟩, Nat.le_of_lt (Nat.lt_of_lt_of_le lt3 dn), dne, hn₄⟩))
end
end K65
namespace K65
open PySem PySem.Spec PyProof.Rows L2
/-! ### exceptions whose chain of contexts is at most n long -/
/-- the context c, over the ground B -/
def CtxB (B : Heap) (H : Hp) : Nat → Value → Prop
  | 0, c => c = .none
  | n + 1, c => c = .none ∨ ∃ (x0 : Addr) (o0 : Obj) (vs0 : Array Value) (c0 : Value), c = .ref x0 ∧ B.get? x0 = some o0 ∧ o0.data = .fields vs0 ∧ vs0[2]? = some c0 ∧ H x0 = none ∧ CtxB B H n c0
def Zk (n : Nat) (B : Heap) (H : Hp) (cls : Value) (d : Option Addr) : Obj → Prop := fun o => o.cls = cls ∧ o.dict = d ∧ ∀ vs, o.data = .fields vs → ∃ c, vs[2]? = some c ∧ CtxB B H n c
theorem fld2_keep {vs : Array Value} {v : Value} : (vs.setIfInBounds 1 v)[2]? = vs[2]? := by
  first
  | exact Array.getElem?_setIfInBounds_ne (by decide)
  | simp [Array.getElem?_setIfInBounds]
theorem Zk.steady {n : Nat} {B : Heap} {H : Hp} {cls : Value} {d : Option Addr} : PXN.Steady1 (Zk n B H cls d) := fun o v h => by
  refine ⟨PXN.steady_cls o v h.1, PXN.steady_dict o v h.2.1, fun vs e => ?_⟩
  obtain ⟨oc, od, dt, sl⟩ := o
  cases dt with
  | fields vs0 =>
    have e2 : vs0.setIfInBounds 1 v = vs := Data.fields.inj e
    obtain ⟨c, h1, h2⟩ := h.2.2 vs0 rfl
    exact ⟨c, by rw [← e2, fld2_keep]; exact h1, h2⟩
  | _ => first | exact Data.noConfusion e | cases e
theorem Zk.zc {n : Nat} {B : Heap} {H : Hp} {cls : Value} {d : Option Addr} {o : Obj} (h : Zk n B H cls d o) : Zc cls d o := ⟨h.1, h.2.1⟩
theorem zk_of_zn {n : Nat} {B : Heap} {H : Hp} {cls : Value} {d : Option Addr} {o : Obj} (h : L2N.Zn cls d o) : Zk n B H cls d o := ⟨h.1, h.2.1, fun vs e => ⟨.none, h.2.2 vs e, by cases n with
  | zero => rfl
  | succ n => exact .inl rfl⟩⟩
/-- an exception in the air of X -/
def XE (n : Nat) (X : Cx) (W : WX) (u : Value) (s' : Shared) : Prop :=
  ∃ (a : Addr) (B : Heap) (sI : Shared) (pins : List (Addr × Obj)) (σ : L2.St) (H : Hp) (cls : Value) (d : Option Addr),
    u = .ref a ∧ Inv X pins σ H sI ∧ (∀ b o, sI.heap.get? b = some o → b ∉ frs X.stack → B.get? b = some o) ∧ sI.heap.UpToSlots s'.heap ∧
      Sky B X.stack a (Zk n B H cls d) X.env.locals s'.heap ∧ H a = none ∧ s'.os = sI.os ∧ AllBare s'.gens ∧ W cls d σ H
def Takes (n : Nat) (X : Cx) (W : WX) : Prop := ∀ u s', XE n X W u s' → X.xe u s'
def CX (n : Nat) (P : Program) (w : World) (outer : List Env) (H : Hp) (s : Shared) (E : XK) (u : Value) (s' : Shared) : Prop :=
  ∃ (a : Addr) (B : Heap) (H' : Hp) (cls : Value) (d : Option Addr), u = .ref a ∧ HandSPX.FlyingZ B outer a (Zk n B H' cls d) s'.heap ∧ HOk P w H' B ∧ UB (frs outer) H H' s.heap B s'.heap ∧ H' a = none ∧ s'.os = s.os ∧ AllBare s'.gens ∧ E cls d H'
section
variable {n : Nat} {X : Cx} {pins : List (Addr × Obj)} {σ : L2.St} {H : Hp} {sI s s' : Shared} {B : Heap} {W : WX} {E : XK}
theorem XE.of_call (I : Inv X pins σ H s) (hW : ∀ cls d H', E cls d H' → W cls d σ H') {u : Value} (c : CX n X.prog X.w X.stack H s E u s') : XE n X W u s' := by
  obtain ⟨a, B, H', cls, d, rfl, fl, hok, ub, na, os, ag, hE⟩ := c
  have st : B.StaysIn s'.heap := fl.1
  obtain ⟨G, g1, g2⟩ := restrict s'.heap fun b => (B.get? b).isSome || decide (b ∈ frs X.stack)
  have gB : ∀ b o, B.get? b = some o → G.get? b = some o := fun b o e => (g1 b (by rw [e]; rfl)).trans (st b o e)
  have gF : ∀ b, b ∈ frs X.stack → G.get? b = s'.heap.get? b := fun b hb => g1 b (by rw [decide_eq_true hb, Bool.or_true])
  have og : ∀ b o, G.get? b = some o → s'.heap.get? b = some o ∧ ((B.get? b).isSome = true ∨ b ∈ frs X.stack) := fun b o e => by
    cases q : ((B.get? b).isSome || decide (b ∈ frs X.stack)) with
    | false => rw [g2 b q] at e; cases e
    | true => exact ⟨(g1 b q).symm.trans e, (Bool.or_eq_true_iff.mp q).imp id of_decide_eq_true⟩
  refine ⟨a, B, { s with heap := G, gens := s'.gens, drawn := s'.drawn, toks := s'.toks }, pins, σ, H', cls, d, rfl, ?_, fun b o e hb => ?_, Heap.UpToSlots.of_keeps fun b o e => (og b o e).1, .inr (.inl fl), na, os, ag, hW _ _ _ hE⟩
  · refine I.call (ch := []) ⟨fun b o e m hb _ => gB b o (ub.keep b o e m hb), fun b o e m hb _ => ?_, fun b o e m _ => ub.free b o e m, fun b o e _ => ?_, ub.tups, ub.frzs, ub.tbls⟩ (hok.kept gB) ag (fun _ z => nomatch z)
    · obtain ⟨sl, q⟩ := ub.slot b o e hb
      exact ⟨sl, (gF b hb).trans q⟩
    · by_cases hb : b ∈ frs X.stack
      · obtain ⟨sl, q⟩ := ub.slot b o e hb
        exact ⟨_, (gF b hb).trans q⟩
      · obtain ⟨o', q⟩ := ub.there b o e hb
        exact ⟨o', gB b o' q⟩
  · obtain ⟨e', h | h⟩ := og b o e
    · obtain ⟨o', q⟩ := Option.isSome_iff_exists.mp h
      rw [q, Option.some.inj ((st b o' q).symm.trans e')]
    · exact absurd h hb
theorem XE.new {a : Addr} {oe : Obj} {vs : Array Value} {cls : Value} {d : Option Addr} (I : Inv X pins σ H sI) (k : ∀ b o, sI.heap.get? b = some o → s'.heap.get? b = some o) (hne : sI.heap.get? a = none) (he : s'.heap.get? a = some oe)
    (hz : Zk n (PySem.W.hideAll sI.heap (frs X.stack)) H cls d oe) (hd : oe.data = .fields vs) (h1 : vs[1]? = some .none) (na : H a = none) (os : s'.os = sI.os) (ag : AllBare s'.gens) (w : W cls d σ H) : XE n X W (.ref a) s' := by
  refine ⟨a, PySem.W.hideAll sI.heap (frs X.stack), sI, pins, σ, H, cls, d, rfl, I, fun b o e hb => PySem.W.hideAll_get _ e hb, Heap.UpToSlots.of_keeps k, .inl ⟨fun b o e => k b o (PySem.W.of_hideAll _ e), ?_, ?_, oe, vs, he, hz, hd, h1⟩, na, os, ag, w⟩
  · cases q : (PySem.W.hideAll sI.heap (frs X.stack)).get? a with
    | none => rfl
    | some o => exact absurd (hne.symm.trans (PySem.W.of_hideAll _ q)) (by simp)
  · exact Heap.FunFrames.of_keeps (fun b o e _ => ⟨o, k b o e, rfl⟩) (funFrames_none I.stack fun b hb => PySem.W.hideAll_none _ hb)
theorem XE.leave (hs : X.stack = X.env :: X.outer) (hf : X.env.frame = some X.env.locals) (hex : X.ex = []) {E₁ : Value → Shared → Prop} (hW : ∀ cls d σ H, W cls d σ H → E cls d H) {u : Value} (x : XE n X W u s') :
    wpAny (model X.prog X.w) X.A (leaving X.env u) (fun _ s'' => CX n X.prog X.w X.outer X.H_0 X.s_0 E u s'') E₁ s' := by
  obtain ⟨a, B, sI, pins, σ, H, cls, d, rfl, I, nb, up, sky, na, os, ag, w⟩ := x
  have hfr : X.A.frames = some (X.env :: X.outer) := by rw [I.ok.frames, hs]
  have nst : ∀ b o, X.s_0.heap.get? b = some o → b ∉ X.fs → b ∉ frs X.stack := fun b o e hb hm => (List.mem_cons.mp (I.stkSub b hm)).elim (fun z => by
    have h1 := Heap.lt_size e
    have h2 := I.ok.above
    rw [z] at h1
    exact absurd h1 (Nat.not_lt.mpr h2)) hb
  have hex' : ∀ b, b ∉ X.ex := fun b hb => by rw [hex] at hb; cases hb
  have fin : ∀ h', HandSPX.FlyingZ B X.outer a (Zk n B H cls d) h' → s'.heap.UpToSlots h' → CX n X.prog X.w X.outer X.H_0 X.s_0 E (.ref a) { s' with heap := h' } := fun h' fl up' => by
    refine ⟨a, B, H, cls, d, rfl, fl, I.inGround nb, ⟨fun b o e m hb => nb b o (I.base.keep b o e m hb (hex' b)) (nst b o e hb), fun b o e hb => ?_, fun b o e m => I.base.free b o e m (hex' b), fun b o e hb => ?_, I.base.tups, I.base.frzs, I.base.tbls⟩,
      na, os.trans I.os, ag, hW _ _ _ _ w⟩
    · obtain ⟨_, o₀, e₀, hnf⟩ := I.ok.funs.mem hb
      obtain rfl := Option.some.inj (e.symm.trans e₀)
      obtain ⟨sl, e1⟩ := I.base.slot b o e (I.ok.frf b hb) hb (hex' b)
      obtain ⟨sl2, e2⟩ := up b _ e1 hnf
      obtain ⟨sl3, e3⟩ := up' b _ e2 hnf
      exact ⟨sl3, e3⟩
    · obtain ⟨o', e1⟩ := I.base.there b o e (hex' b)
      exact ⟨o', nb b o' e1 (nst b o e hb)⟩
  rw [hs] at sky
  rcases sky with ⟨hB, hn, hl, oe, vs, he, hz, hd, h1⟩ | fl | hd
  · exact PXN.leaving_firstZ Zk.steady hfr hl hf he hB hn hd h1 hz fin
  · exact PXN.leaves_onZ Zk.steady hfr hf fl fin
  · exact HandSPX.leaves_heldZ hf hd fin
theorem takes_of (hs : X.stack = X.env :: X.outer) (hf : X.env.frame = some X.env.locals) (hex : X.ex = []) {E₁ : Value → Shared → Prop}
    (hx : X.xe = fun e s' => wpAny (model X.prog X.w) X.A (leaving X.env e) (fun _ s'' => CX n X.prog X.w X.outer X.H_0 X.s_0 E e s'') E₁ s') : Takes n X (fun cls d _ H => E cls d H) := fun u s' x => by
  rw [hx]
  exact XE.leave (W := fun cls d _ H => E cls d H) (E := E) hs hf hex (fun _ _ _ _ h => h) x
theorem passAt (tk : Takes n X W) (σ : L2.St) : PassesAt (CX n X.prog X.w) X σ (WE W σ) := fun _ _ _ e s' I c => tk e s' (XE.of_call I (fun _ _ _ h => h) c)
/-- what is forgotten: the chain -/
theorem forget {P : Program} {w : World} {outer : List Env} {u : Value} (c : CX n P w outer H s E u s') : L2.CX P w outer H s E u s' := by
  obtain ⟨a, B, H', cls, d, e, fl, r⟩ := c
  exact ⟨a, B, H', cls, d, e, L2H.flyingZ_imp (fun o z => z.zc) fl, r⟩
end
end K65
namespace K65
open PySem PySem.Spec PyProof.Rows L2 HotX
/-! ### the chain over pins -/
def CtxP (pn : List (Addr × Obj)) : Nat → Value → Prop
  | 0, c => c = .none
  | n + 1, c => c = .none ∨ ∃ (p : Addr × Obj) (vs0 : Array Value) (c0 : Value), c = .ref p.1 ∧ p ∈ pn ∧ p.2.data = .fields vs0 ∧ vs0[2]? = some c0 ∧ CtxP pn n c0
theorem CtxP.more {pn pn' : List (Addr × Obj)} (h : ∀ p ∈ pn, p ∈ pn') : ∀ {n : Nat} {c : Value}, CtxP pn n c → CtxP pn' n c
  | 0, _, z => z
  | n + 1, _, .inl z => .inl z
  | n + 1, _, .inr ⟨p, vs0, c0, e, m, d, v, r⟩ => .inr ⟨p, vs0, c0, e, h p m, d, v, CtxP.more h r⟩
theorem ctxp_low {pn : List (Addr × Obj)} : ∀ {n : Nat} {c : Value}, n ≤ 1 → CtxP pn n c → c = .none ∨ ∃ (p : Addr × Obj) (vs0 : Array Value), c = .ref p.1 ∧ p ∈ pn ∧ p.2.data = .fields vs0 ∧ vs0[2]? = some .none
  | 0, _, _, z => .inl z
  | n + 1, c, hn, z => by
    have z' : c = .none ∨ ∃ (p : Addr × Obj) (vs0 : Array Value) (c0 : Value), c = .ref p.1 ∧ p ∈ pn ∧ p.2.data = .fields vs0 ∧ vs0[2]? = some c0 ∧ CtxP pn n c0 := z
    rcases z' with z' | ⟨p, vs0, c0, e, m, d, v, r⟩
    · exact .inl z'
    · cases n with
      | zero =>
        have r' : c0 = .none := r
        exact .inr ⟨p, vs0, e, m, d, by rw [v, r']⟩
      | succ n => exact absurd hn (by omega)
/-- the context bears the handled exception, its contexts too -/
def HotK (n : Nat) (X : Cx) : Prop := ∃ (p : Addr × Obj) (vs : Array Value) (c : Value), X.A.handled = some (.ref p.1) ∧ p ∈ X.pn ∧ p.2.data = .fields vs ∧ vs[2]? = some c ∧ CtxP X.pn n c
/-- the pins that a chain wants -/
theorem chain_pins {X : Cx} {σ : L2.St} {H : Hp} {s : Shared} {B : Heap} (st : B.StaysIn s.heap) : ∀ {n : Nat} {c : Value} {pins : List (Addr × Obj)}, CtxB B H n c → Inv X pins σ H s → ∃ pl, Inv X (pl ++ pins) σ H s ∧ CtxP pl n c
  | 0, c, pins, z, I => ⟨[], I, z⟩
  | n + 1, c, pins, .inl z, I => ⟨[], I, .inl z⟩
  | n + 1, c, pins, .inr ⟨x0, o0, vs0, c0, e, g, d, v, hn, r⟩, I => by
    obtain ⟨pl, J, q⟩ := chain_pins st r I
    have g' := st x0 o0 g
    have nF : x0 ∉ X.fs := fun hb => by
      obtain ⟨_, o', e', hd⟩ := I.funs.mem hb
      rw [g'] at e'; cases e'
      exact hd vs0 d
    have nL : x0 ≠ X.env.locals := fun z => by
      obtain ⟨m, ⟨oL, es, ep, hL, hd, _⟩, _⟩ := I.loc
      rw [← z, g'] at hL; cases hL
      rw [d] at hd; cases hd
    refine ⟨(x0, o0) :: pl, ⟨J.ok, J.os, J.bare, J.base, J.loc, J.cell, J.free, J.freeC, fun p hp => ?_, J.hok, J.len⟩, .inr ⟨(x0, o0), vs0, c0, e, List.mem_cons_self, d, v, CtxP.more (fun _ h => List.mem_cons_of_mem _ h) q⟩⟩
    rcases List.mem_append.mp hp with hp | hp
    · exact J.pin p (List.mem_append_left _ hp)
    · rcases List.mem_cons.mp hp with e2 | hp
      · rw [e2]; exact ⟨g', hn, nL, nF, fun v z => by have z' : o0.data = .cell v := z; rw [d] at z'; cases z'⟩
      · exact J.pin p (List.mem_append_right _ hp)
theorem unpin {X : Cx} {σ : L2.St} {H : Hp} {s : Shared} {pl pins : List (Addr × Obj)} (J : Inv X (pl ++ pins) σ H s) : Inv X pins σ H s :=
  ⟨J.ok, J.os, J.bare, J.base, J.loc, J.cell, J.free, J.freeC, fun p hp => J.pin p ((List.mem_append.mp hp).elim (fun h => List.mem_append_left _ h) fun h => List.mem_append_right _ (List.mem_append_right _ h)), J.hok, J.len⟩
/-! ### raise .. from None while an exception is handled whose own context is None, or has none itself -/
/-- the handled exception as it stands: its context, if any, is another than a and has none -/
def Hot2 (A : Around) (x1 a : Addr) (h : Heap) : Prop := A.handled = some (.ref x1) ∧ ∃ (o : Obj) (vs : Array Value) (c : Value), h.get? x1 = some o ∧ o.data = .fields vs ∧ vs[2]? = some c ∧
  (c = .none ∨ ∃ (x0 : Addr) (o0 : Obj) (vs0 : Array Value), c = .ref x0 ∧ x0 ≠ a ∧ h.get? x0 = some o0 ∧ o0.data = .fields vs0 ∧ vs0[2]? = some .none)
section
variable {prog : Program} {w : World} {A : Around} {E : Value → Shared → Prop} {s : Shared}
theorem raiseNew2 {α : Type} {a x1 : Addr} {oe : Obj} {vs : Array Value} {Q : α → Shared → Prop} (hot : Hot2 A x1 a s.heap) (hne : x1 ≠ a) (ha : s.heap.get? a = some oe) (da : oe.data = .fields vs) (hi : 2 < vs.size)
    (hE : E (.ref a) { s with heap := s.heap.update a (Obj.mapFields (·.setIfInBounds 2 (.ref x1))) }) : wpAny (model prog w) A (raiseNew (.ref a) : Sem α) Q E s := by
  obtain ⟨hh, o1, vs1, c, h1, d1, c1, hc⟩ := hot
  have un : ∀ {Q : Value → Shared → Prop}, Q .none s → wpAny (model prog w) A (holding [Value.ref a] (runValue (.builtin "proto.unchain" ⟨[.ref a, .ref x1, .ref x1, .bool false], []⟩))) Q E s := fun {Q} q => by
    rcases hc with rfl | ⟨x0, o0, vs0, rfl, hx0, h0, d0, c0⟩
    · exact unchained h1 d1 c1 q
    · refine wpAny_holding (wpAny_runValue (codeAny_builtin HotX.entry_unchain ?_))
      show wpAny _ _ (field (.ref x1) 2 >>= _) _ _ s
      refine wpAny_bind (wpAny_field h1 d1 c1 ?_)
      rw [if_neg (show ¬ ((Value.ref x0 == Value.none) = true) from by simp)]
      show wpAny _ _ (if (Value.ref x0 == Value.ref a) = true then _ else _) _ _ s
      rw [if_neg (show ¬ ((Value.ref x0 == Value.ref a) = true) from by simp [hx0])]
      show wpAny _ _ (if (Value.ref x0 == Value.ref x1) = true then _ else _) _ _ s
      by_cases hx : x0 = x1
      · rw [if_pos (show (Value.ref x0 == Value.ref x1) = true from by simp [hx])]
        exact wpAny_bind (wpAny_rule (wpAny_pure q))
      · rw [if_neg (show ¬ ((Value.ref x0 == Value.ref x1) = true) from by simp [hx])]
        refine wpAny_bind (wpAny_pure (wpAny_pure ⟨Code.quiet_builtin _ (by decide +kernel), codeAny_builtin HotX.entry_unchain ?_⟩))
        show wpAny _ _ (field (.ref x0) 2 >>= _) _ _ s
        refine wpAny_bind (wpAny_field h0 d0 c0 ?_)
        rw [if_pos (show (Value.none == Value.none) = true from rfl)]
        first
        | exact wpAny_bind (wpAny_pure (wpAny_pure q))
        | exact wpAny_pure q
  unfold raiseNew
  refine wpAny_bind (wpAny_handled ?_)
  rw [hh]
  have hb : (Value.ref x1 != Value.ref a) = true := ref_bne hne
  first
  | (show wpAny _ _ (if (Value.ref x1 != Value.ref a) = true then _ else _) _ _ _
     rw [if_pos hb]
     first
     | exact wpAny_bind (un (wpAny_bind (chained ha da hi (wpAny_throw hE))))
     | exact wpAny_bind (wpAny_bind (un (chained ha da hi (wpAny_throw hE)))))
  | (refine wpAny_bind ?_
     show wpAny _ _ (if (Value.ref x1 != Value.ref a) = true then _ else _) _ _ _
     rw [if_pos hb]
     exact wpAny_bind (un (chained ha da hi (wpAny_throw hE))))
theorem hot2_from {a x1 : Addr} {h : Heap} (hot : Hot2 A x1 a h) (hne : x1 ≠ a) : Hot2 A x1 a (noneFrom h a) := by
  obtain ⟨hh, o1, vs1, c, h1, d1, c1, hc⟩ := hot
  refine ⟨hh, o1, vs1, c, (noneFrom_other (Ne.symm hne)).trans h1, d1, c1, hc.imp id ?_⟩
  rintro ⟨x0, o0, vs0, e, n0, h0, r⟩
  exact ⟨x0, o0, vs0, e, n0, (noneFrom_other (Ne.symm n0)).trans h0, r⟩
theorem raise_from2 {env : Env} {x c : Sem Value} {Q : Flow → Shared → Prop} {x1 : Addr}
    (hcs : ∀ (s : Shared) (Q' : Value → Shared → Prop), Q' .none s → wpAny (model prog w) A c Q' E s)
    (h : wpAny (model prog w) A x (fun v s₁ => ∃ a oe vs cls, v = .ref a ∧ s₁.heap.get? a = some oe ∧ oe.cls = cls ∧ oe.data = .fields vs ∧ vs[1]? = some .none ∧ 4 < vs.size ∧ x1 ≠ a ∧ Hot2 A x1 a s₁.heap ∧
      PySem.W.Looks (model prog w) s₁.heap (isSubtype cls (.type "BaseException")) true ∧ PySem.W.Looks (model prog w) (noneFrom s₁.heap a) (typeOf cls) (.type "type") ∧
      E (.ref a) { s₁ with heap := (noneFrom s₁.heap a).update a (Obj.mapFields (·.setIfInBounds 2 (.ref x1))) }) E s) :
    wpAny (model prog w) A (raiseStmt env (some x) (some c)) Q E s := by
  unfold raiseStmt
  dsimp only
  refine wpAny_bind (wpAny_mono h (fun v s₁ h₁ => ?_) fun _ _ x => x)
  obtain ⟨a, oe, vs, cls, rfl, ha, hcls, hd, h1, hi, hne, hot, L1, L3, hE⟩ := h₁
  have LT : PySem.W.Looks (model prog w) s₁.heap (typeOf (.ref a)) cls := fun A Q E s k q => wpAny_typeOf_ref (k _ _ ha) (by rw [hcls]; exact q)
  have LI : PySem.W.Looks (model prog w) s₁.heap (isInstance (.ref a) (.type "BaseException")) true := LT.andThen L1
  obtain ⟨ha4, hd4⟩ := noneFrom_at ha hd
  have nty : ∀ {h : Heap} {o : Obj} {us : Array Value} {Q' : Bool → Shared → Prop} {E' : Value → Shared → Prop}, h.get? a = some o → o.data = .fields us → Q' false { s₁ with heap := h } → wpAny (model prog w) A (isType (.ref a)) Q' E' { s₁ with heap := h } := fun {h o us Q' E'} g dd hq => by
    simp only [isType, loadHead]
    refine wpAny_bind (wpAny_loadPart g ?_)
    rw [dd]
    exact wpAny_pure hq
  have hd3 := Obj.data_mapFields hd (·.setIfInBounds 3 .none)
  have ha3 := Heap.get?_update_self (Obj.mapFields (·.setIfInBounds 3 .none)) ha (Obj.isFreed_of_fields hd3)
  have s4 : 4 < (vs.setIfInBounds 3 Value.none).size := by rw [set_size]; exact hi
  have s2 : 2 < ((vs.setIfInBounds 3 Value.none).setIfInBounds 4 (Value.bool true)).size := by rw [set_size, set_size]; omega
  have LT4 : PySem.W.Looks (model prog w) (noneFrom s₁.heap a) (typeOf (.ref a)) cls := fun A Q E s k q => wpAny_typeOf_ref (k _ _ ha4) (by rw [Obj.cls_mapFields, Obj.cls_mapFields, hcls]; exact q)
  have rest : wpAny (model prog w) A (do
      let b ← isType (.ref a)
      if b = true then do
        let e ← holding [.ref a] (raisedFor (.ref a) (.ref a))
        setFlight e none
        raiseNew e
      else do
        let e ← raisedInstance (.ref a)
        setFlight e none
        raiseNew e : Sem Flow) Q E { s₁ with heap := noneFrom s₁.heap a } := by
    refine wpAny_bind (nty ha4 hd4 ?_)
    simp only [Bool.false_eq_true, if_false]
    unfold raisedInstance
    refine wpAny_bind (wpAny_bind (LT4.here (wpAny_bind (L3.here ?_))))
    rw [if_pos (beq_self_eq_true _)]
    refine wpAny_pure ?_
    unfold setFlight
    refine wpAny_bind (wpAny_bind (wpAny_field ha4 hd4 (set_other (by decide) (set_other (by decide) h1)) ?_))
    rw [if_neg (by decide)]
    exact wpAny_pure (raiseNew2 (hot2_from hot hne) hne ha4 hd4 s2 hE)
  refine wpAny_bind (wpAny_holding (hcs _ _ (wpAny_bind (wpAny_pure ?_))))
  dsimp only
  refine wpAny_bind (wpAny_holding ?_)
  unfold excFromValue isExcClass
  refine wpAny_bind (wpAny_bind (nty ha hd ?_))
  simp only [Bool.false_eq_true, if_false]
  refine wpAny_pure ?_
  simp only [Bool.false_eq_true, if_false]
  refine wpAny_bind (LI.here ?_)
  simp only [if_true]
  refine wpAny_pure ?_
  first
  | rw [if_pos (show (Value.none == Value.none) = true from rfl)]
  | simp only [beq_self_eq_true, if_true]
  first
  | refine wpAny_bind (wpAny_pure (wpAny_bind (wpAny_setField ha hd (by omega) (wpAny_bind (wpAny_setField ha3 hd3 s4 ?_)))))
  | refine wpAny_bind (wpAny_pure (wpAny_bind (wpAny_bind (wpAny_setField ha hd (by omega) (wpAny_bind (wpAny_setField ha3 hd3 s4 ?_))))))
  | refine wpAny_bind (wpAny_bind (wpAny_pure (wpAny_bind (wpAny_setField ha hd (by omega) (wpAny_setField ha3 hd3 s4 ?_)))))
  first
  | exact rest
  | (refine wpAny_pure ?_; exact rest)
end
section
variable {n : Nat} {X : Cx} {W : WX} {e : Expr} {t : L2.St → Hp → XK → Prop} {pos cpos : Pos} {j : Nat}
/-- raise X(..), where nothing is handled -/
theorem ps_raiseK (hc : X.calm = true) (tk : Takes n X W) (he : L2N.PMk X e t) : PS X (.Raise (some e) none pos) (fun _ σ H => t σ H fun cls d H' => W cls d σ H') := by
  refine ⟨fun pins s σ H D I h => ?_⟩
  show wpAny _ _ (do standAt pos; raiseStmt X.env (some (do let v ← eval e X.env; standAt pos; pure v)) none) _ _ _
  refine wpAny_bind (wpAny_standAt (raise_made (I.ok.hd hc) (wpAny_bind (wpAny_mono (he pins s σ H _ I h) (fun u s1 hu => wpAny_bind (wpAny_standAt (wpAny_pure ?_))) fun _ _ x => x))))
  obtain ⟨a, oe, vs, sI, H', cls, d, rfl, J, k, hne, ha, hz, hd, h1, na, os, ag, r, q⟩ := hu
  obtain ⟨r1, r2⟩ := r (model X.prog X.w) s1.heap (J.kIn.keeps k)
  exact ⟨a, oe, vs, cls, rfl, ha, hz.1, hd, h1, r1, r2, tk _ _ (XE.new J k hne ha (zk_of_zn hz) hd h1 na os ag q)⟩
/-- raise X(..) from None in an except suite -/
theorem ps_raiseNK (hn : n ≤ 1) (hc : HotK n X) (tk : Takes (n + 1) X W) (he : L2H.PMk5 X e t) : PS X (.Raise (some e) (some (.Constant .none j cpos)) pos) (fun _ σ H => t σ H fun cls d H' => W cls d σ H') := by
  refine ⟨fun pins s σ H D I h => ?_⟩
  obtain ⟨p, v1, c1, hh, hp, e1, ec, hch⟩ := hc
  show wpAny _ _ (do standAt pos; raiseStmt X.env (some (do let v ← eval e X.env; standAt pos; pure v)) (some (do let v ← eval (.Constant .none j cpos) X.env; standAt pos; pure v))) _ _ _
  refine wpAny_bind (wpAny_standAt (raise_from2 (x1 := p.1) (fun s2 Q2 q2 => wpAny_bind (Constant_none (wpAny_bind (wpAny_standAt (wpAny_pure q2))))) (wpAny_bind (wpAny_mono (he pins s σ H _ I h) (fun u s1 hu => wpAny_bind (wpAny_standAt (wpAny_pure ?_))) fun _ _ x => x))))
  obtain ⟨⟨a, oe, vs, sI, H', cls, d, rfl, J, k, hne, ha, hz, hd, h1, na, os, ag, r, q⟩, h5⟩ := hu
  have hi : 4 < vs.size := h5 a oe vs rfl ha hd
  have nab : ∀ {b u}, sI.heap.get? b = some u → b ≠ a := fun {b u} z y => by rw [y, hne] at z; cases z
  have k4 : ∀ b u, sI.heap.get? b = some u → (noneFrom s1.heap a).get? b = some u := fun b u z => (noneFrom_other (Ne.symm (nab z))).trans (k b u z)
  obtain ⟨r1, _⟩ := r (model X.prog X.w) s1.heap (J.kIn.keeps k)
  obtain ⟨_, r2⟩ := r (model X.prog X.w) (noneFrom s1.heap a) (J.kIn.keeps k4)
  have P1 := J.pin p (List.mem_append_left _ hp)
  have inB : ∀ q ∈ X.pn, (PySem.W.hideAll sI.heap (frs X.stack)).get? q.1 = some q.2 ∧ H' q.1 = none := fun q hq => by
    have z := J.pin q (List.mem_append_left _ hq)
    exact ⟨PySem.W.hideAll_get _ z.1 fun hm => (List.mem_cons.mp (J.stkSub q.1 hm)).elim z.2.2.1 z.2.2.2.1, z.2.1⟩
  have toB : ∀ {m : Nat} {c : Value}, CtxP X.pn m c → CtxB (PySem.W.hideAll sI.heap (frs X.stack)) H' m c := fun {m} => by
    induction m with
    | zero => exact fun z => z
    | succ m ih =>
      rintro c (z | ⟨p0, vs0, c0, e0, m0, d0, v0, r0⟩)
      · exact .inl z
      · exact .inr ⟨p0.1, p0.2, vs0, c0, e0, (inB p0 m0).1, d0, v0, (inB p0 m0).2, ih r0⟩
  have hot : Hot2 X.A p.1 a s1.heap := by
    refine ⟨hh, p.2, v1, c1, k _ _ P1.1, e1, ec, ?_⟩
    rcases ctxp_low hn hch with z | ⟨p0, vs0, e0, m0, d0, v0⟩
    · exact .inl z
    · have z := J.pin p0 (List.mem_append_left _ m0)
      exact .inr ⟨p0.1, p0.2, vs0, e0, nab z.1, k _ _ z.1, d0, v0⟩
  obtain ⟨ha4, hd4⟩ := noneFrom_at ha hd
  refine ⟨a, oe, vs, cls, rfl, ha, hz.1, hd, h1, hi, nab P1.1, hot, r1, r2, tk _ _ (XE.new J (fun b u z => ?_) hne (Heap.get?_update_self _ ha4 (Obj.isFreed_of_fields (Obj.data_mapFields hd4 _)))
    ⟨by rw [Obj.cls_mapFields, Obj.cls_mapFields, Obj.cls_mapFields]; exact hz.1, by rw [HandSPX.dict_mapFields, HandSPX.dict_mapFields, HandSPX.dict_mapFields]; exact hz.2.1, fun us eu => ?_⟩ (Obj.data_mapFields hd4 _)
      (set_other (by decide) (set_other (by decide) (set_other (by decide) h1))) na os ag q)⟩
  · show ((noneFrom s1.heap a).update a (Obj.mapFields (·.setIfInBounds 2 (.ref p.1)))).get? b = some u
    rw [Heap.get?_update_other _ _ (Ne.symm (nab z))]
    exact k4 b u z
  · rw [Obj.data_mapFields hd4 (·.setIfInBounds 2 (.ref p.1))] at eu
    obtain rfl := Data.fields.inj eu
    refine ⟨.ref p.1, ?_, .inr ⟨p.1, p.2, v1, c1, rfl, (inB p hp).1, e1, ec, (inB p hp).2, toB hch⟩⟩
    have s2 : 2 < ((vs.setIfInBounds 3 Value.none).setIfInBounds 4 (Value.bool true)).size := by rw [set_size, set_size]; omega
    exact Array.getElem?_setIfInBounds_self_of_lt s2
end
end K65
namespace K65
open PySem PySem.Spec PyProof.Rows L2 HotX
/-! ### try: body, except x: suite; the body's exceptions bear a chain of at most n, the suite may raise -/
theorem Sky.landK {n : Nat} {B : Heap} {H : Hp} {cls : Value} {d : Option Addr} {M : Model} {A : Around} {E₁ : Value → Shared → Prop} {env : Env} {outer : List Env} {L a : Addr} {s : Shared} {Q : Unit → Shared → Prop} (hfr : A.frames = some (env :: outer)) (hf : env.frame = some L)
    (x : Sky B (env :: outer) a (Zk n B H cls d) L s.heap) (hQ : ∀ h', HandSPX.FlyingZ B (env :: outer) a (Zk n B H cls d) h' → s.heap.UpToSlots h' → Q () { s with heap := h' }) :
    wpAny M A (noteFrame (.ref a) env) (fun _ s₂ => wpAny M A (setFlight (.ref a) none) Q E₁ s₂) E₁ s := L2N.Sky.land Zk.steady hfr hf x hQ
section
variable {n : Nat} {X : Cx} {x : Str} {c : Value} {body suite : List Stmt} {b₀ : Stmt} {np pos pos' : Pos} {tb : WX → TS} {ts : Addr → Value → Option Addr → TS} {Wout : WX}
/-- out of the suite the wish is Tk (any form of Takes) -/
theorem ps_tryK {Tk : Cx → Prop} (hs : X.stack = X.env :: X.outer) (hf : X.env.frame = some X.env.locals) (hc : Names X x c) (hpa : ∀ hd : Option Value, PassesOwnAt (model X.prog X.w) (X.A.mark hd) X.A X.env X.xe) (tk : L2.Takes X Wout)
    (hTk : X.Ok → ∀ (a : Addr) (q : Addr × Obj) (pl : List (Addr × Obj)), Tk (L2H.suiteX X a (q :: (X.pn ++ pl))))
    (hb : ∀ (W : WX) (pn : List (Addr × Obj)) (xe : Value → Shared → Prop), Takes n (X.tr pn xe) W → PassesOwn (model X.prog X.w) X.A X.env xe → PSs (X.tr pn xe) body (tb W))
    (hsu : ∀ (a : Addr) (oe : Obj) (cls : Value) (d : Option Addr) (pn : List (Addr × Obj)), Tk (L2H.suiteX X a ((a, oe) :: pn)) → HotK n (L2H.suiteX X a ((a, oe) :: pn)) → PSs (L2H.suiteX X a ((a, oe) :: pn)) (b₀ :: suite) (ts a cls d)) :
    PS X (.Try body [.ExceptHandler (some (.Name x np)) none (b₀ :: suite) pos'] [] [] pos) (fun D σ H => tb (wOnly X.K c ts Wout D) D σ H) := by
  refine ⟨fun pins s σ H D I h => ?_⟩
  have ok := I.ok
  have hfr : X.A.frames = some (X.env :: X.outer) := by rw [ok.frames, hs]
  have notFr : ∀ {B h : Heap} {a : Addr} {o : Obj} {vs : Array Value}, h.FunFrames B (X.env :: X.outer) → h.get? a = some o → o.data = .fields vs → a ∉ frs (X.env :: X.outer) := fun {B h a o vs} ff e dd hm => by
    obtain ⟨_, o', e', hnf⟩ := ff.mem hm
    exact hnf vs (by rw [← dd, Option.some.inj (e'.symm.trans e)])
  refine wpAny_Try_except ?_
  refine wpAny_mono ((hb (wOnly X.K c ts Wout D) (X.pn ++ pins) (fun e s₁ => wpAny (model X.prog X.w) X.A (noteFrame e X.env) (fun _ s₂ => wpAny (model X.prog X.w) X.A (setFlight e none) (fun _ s₃ =>
    wpAny (model X.prog X.w) X.A (handleBy e X.env [.ExceptHandler (some (.Name x np)) none (b₀ :: suite) pos']) (SP X pins D) X.xe s₃) X.xe s₂) X.xe s₁) (fun u s' xx => ?_) PassesOwn.looking).run [] s σ H D (I.toTry _) h) (fun f s1 hsp => ?_) (fun e s1 he => he)
  · obtain ⟨a, B, sI, pins', σ', H', cls, d, rfl, J', nb, up, sky, na, os, ag, b, hb1, hyes, hno⟩ := xx
    have J : Inv X pins σ' H' sI := J'.ofTry ok
    have sky' : Sky B (X.env :: X.outer) a (Zk n B H' cls d) X.env.locals s'.heap := by rw [← hs]; exact sky
    show wpAny (model X.prog X.w) X.A (noteFrame (.ref a) X.env) _ _ _
    refine Sky.landK hfr hf sky' fun h3 fl3 up3 => ?_
    have J3 : Inv X pins σ' H' { s' with heap := h3 } := J.landed nb fl3.1 (up.trans up3) os ag
    obtain ⟨oe3, vs3, he3, hz3, hd3⟩ := fl3.there
    have nfr : a ∉ frs (X.env :: X.outer) := notFr fl3.2.2.1 he3 hd3
    have nL : a ≠ X.env.locals := fun z => nfr (List.mem_filterMap.mpr ⟨X.env, List.mem_cons_self, by rw [hf, z]⟩)
    have nF : a ∉ X.fs := fun hm => by
      obtain ⟨e, he, q⟩ := List.mem_filterMap.mp hm
      exact nfr (List.mem_filterMap.mpr ⟨e, List.mem_cons_of_mem _ he, q⟩)
    have S3 := J3.suite he3 hd3 na nL nF
    refine wpAny_handleBy_cons (codeAny_handlers_test ?_) (by intro q; cases q)
    have LT : PySem.W.Looks (model X.prog X.w) h3 (typeOf (.ref a)) cls := fun A Q E s k q => wpAny_typeOf_ref (k _ _ he3) (by rw [hz3.1]; exact q)
    have LM := PySem.W.exm_one (M := model X.prog X.w) (J3.kIn) LT hb1
    have test : ∀ {Q : Value → Shared → Prop} {E : Value → Shared → Prop}, Q c { s' with heap := h3 } → wpAny (model X.prog X.w) (X.A.mark (some (.ref a))) (eval (.Name x np) X.env) Q E { s' with heap := h3 } := fun {Q E} q => by
      obtain ⟨hg, hdbg, hm | ⟨hm, hv, hnn⟩⟩ := hc
      · exact ld_glob (X := X.suite a ((a, oe3) :: (X.pn ++ pins))) S3 hg hm q hdbg
      · exact ld_blt (X := X.suite a ((a, oe3) :: (X.pn ++ pins))) S3 hg hm hv q hnn hdbg
    refine test (LM.here ?_)
    cases b with
    | true =>
      refine codeAny_handlers_suite ?_
      refine HandSPX.lands_againZ fl3 fun h4 fl4 up4 => ?_
      have J4 : Inv X pins σ' H' { s' with heap := h4 } := J.landed nb fl4.1 ((up.trans up3).trans up4) os ag
      obtain ⟨oe4, vs4, he4, hz4, hd4⟩ := fl4.there
      obtain ⟨c4, hc4, ch4⟩ := hz4.2.2 vs4 hd4
      obtain ⟨pl, J5, ch5⟩ := chain_pins (s := { s' with heap := h4 }) fl4.1 ch4 J4
      have S5 := J5.suite he4 hd4 na nL nF
      have hot : HotK n (L2H.suiteX X a ((a, oe4) :: (X.pn ++ (pl ++ pins)))) := ⟨(a, oe4), vs4, c4, rfl, List.mem_cons_self, hd4, hc4, CtxP.more (fun p hp => List.mem_cons_of_mem _ (List.mem_append_right _ (List.mem_append_left _ hp))) ch5⟩
      have back : ∀ {σ6 : L2.St} {H6 : Hp} {s6 : Shared}, Inv (L2H.suiteX X a ((a, oe4) :: (X.pn ++ (pl ++ pins)))) [] σ6 H6 s6 → Inv X pins σ6 H6 s6 := fun S6 => unpin (L2H.unsuiteX S6 ok)
      refine wpAny_mono ((hsu a oe4 cls d (X.pn ++ (pl ++ pins)) (hTk ok _ _ _) hot).run [] _ _ H' _ (L2H.suiteX_of S5) (hyes rfl a na)) (fun f s6 hsp => ?_) (fun e6 s6 z => hpa (some (.ref a)) e6 s6 z)
      cases f with
      | next =>
        obtain ⟨σ6, H6, S6, q6⟩ := hsp
        exact ⟨_, _, back S6, q6⟩
      | brk =>
        obtain ⟨σ6, H6, S6, q6⟩ := hsp
        exact ⟨_, _, back S6, q6⟩
      | cont =>
        obtain ⟨σ6, H6, S6, q6⟩ := hsp
        exact ⟨_, _, back S6, q6⟩
      | ret u =>
        obtain ⟨v6, σ6, H6, S6, r6, q6⟩ := hsp
        exact ⟨_, _, _, back S6, r6, q6⟩
    | false =>
      show wpAny _ X.A (handleBy (.ref a) X.env []) _ _ _
      refine wpAny_handleBy_nil ?_
      obtain ⟨k1, k2, k3, oe, vs, T, oT, ts', he, hz, hd, h1, hr⟩ := id fl3
      unfold PySem.passOn
      refine wpAny_bind (wpAny_field he hd h1 ?_)
      rw [if_neg (show ¬ ((Value.ref T == Value.none) = true) from by simp)]
      have fin : wpAny (model X.prog X.w) X.A (setFlight (.ref a) X.env.frame) (fun _ s4 => wpAny (model X.prog X.w) X.A (throw (.ref a) : Sem Flow) (SP X pins D) X.xe s4) X.xe { s' with heap := h3 } := by
        rw [hf]
        refine HandSPX.setFlight_upZ (L2H.flyingZ_imp (fun o z => z.zc) fl3) fun h4 hh4 up4 => wpAny_throw (tk _ _ ?_)
        exact ⟨a, B, sI, pins, σ', H', cls, d, rfl, J, nb, (up.trans up3).trans up4, .inr (.inr (by rw [hs]; exact hh4)), na, os, ag, hno rfl⟩
      first
        | exact wpAny_bind (wpAny_pure (wpAny_bind fin))
        | exact wpAny_bind fin
  · cases f with
    | next =>
      obtain ⟨σ', H', J', q⟩ := hsp
      exact wpAny_execs_nil ⟨σ', H', J'.ofTry ok, q⟩
    | brk =>
      obtain ⟨σ', H', J', q⟩ := hsp
      exact ⟨σ', H', J'.ofTry ok, q⟩
    | cont =>
      obtain ⟨σ', H', J', q⟩ := hsp
      exact ⟨σ', H', J'.ofTry ok, q⟩
    | ret u =>
      obtain ⟨v, σ', H', J', r, q⟩ := hsp
      exact ⟨v, σ', H', J'.ofTry ok, r, q⟩
end
/-- a wish of X is a wish of its suites -/
theorem takes_suite {m : Nat} {X : Cx} {Wout : WX} (ok : X.Ok) (tk : Takes m X Wout) (a : Addr) (q : Addr × Obj) (pl : List (Addr × Obj)) : Takes m (L2H.suiteX X a (q :: (X.pn ++ pl))) Wout := fun u2 s2 x2 => by
  obtain ⟨a2, B2, sI2, pn2, σ2, H2, cls2, d2, e2, I2, nb2, up2, sky2, na2, os2, ag2, w2⟩ := x2
  exact tk u2 s2 ⟨a2, B2, sI2, pl, σ2, H2, cls2, d2, e2, L2H.unsuiteX I2 ok, nb2, up2, sky2, na2, os2, ag2, w2⟩
theorem takes_suite2 {X : Cx} {Wout : WX} (ok : X.Ok) (tk : L2.Takes X Wout) (a : Addr) (q : Addr × Obj) (pl : List (Addr × Obj)) : L2.Takes (L2H.suiteX X a (q :: (X.pn ++ pl))) Wout := fun u2 s2 x2 => by
  obtain ⟨a2, B2, sI2, pn2, σ2, H2, cls2, d2, e2, I2, nb2, up2, sky2, na2, os2, ag2, w2⟩ := x2
  exact tk u2 s2 ⟨a2, B2, sI2, pl, σ2, H2, cls2, d2, e2, L2H.unsuiteX I2 ok, nb2, up2, sky2, na2, os2, ag2, w2⟩
/-- a weaker wish: the chain is forgotten -/
theorem takes_k {m : Nat} {X : Cx} {W : WX} (tk : L2.Takes X W) : Takes m X W := fun u s' x => by
  obtain ⟨a, B, sI, pins, σ, H, cls, d, e, I, nb, up, sky, r⟩ := x
  refine tk u s' ⟨a, B, sI, pins, σ, H, cls, d, e, I, nb, up, ?_, r⟩
  rcases sky with ⟨hB, hn, hl, oe, vs, he, hz, q⟩ | fl | hd
  · exact .inl ⟨hB, hn, hl, oe, vs, he, hz.zc, q⟩
  · exact .inr (.inl (L2H.flyingZ_imp (fun o z => z.zc) fl))
  · exact .inr (.inr ⟨hd.1, hd.2.1, hd.2.2.1, L2H.tracedZ_imp (fun o z => z.zc) hd.2.2.2⟩)
/-! ### BadStep(e) -/
theorem relO_num {v : V} {v' : Value} (r : RelV v v') (f : Str) : RelO (List.lookup f [(("number" : Str), v)]) (if f = "number" then some v' else none) := by
  rw [lookup_one f]
  by_cases h : f = "number"
  · rw [if_pos h, if_pos h]; exact r
  · rw [if_neg h, if_neg h]; trivial
where
  lookup_one (f : Str) : List.lookup f [(("number" : Str), v)] = if f = "number" then some v else none := by
    by_cases h : f = "number"
    · subst h
      rw [if_pos rfl]
      simp [List.lookup]
    · have e : (f == ("number" : Str)) = false := by simpa using h
      rw [if_neg h]
      simp [List.lookup, e]
def tMkBad (C : Addr) (ta : TA) : L2.St → Hp → XK → Prop := fun σ H Q => ta σ H fun vs H1 => ∃ v, vs = [v] ∧ ∀ d, H1 d = none → Q (.ref C) (some d) (upd H1 d (.xd [(("number" : Str), v)]))
section
variable {X : Cx} {C fI : Addr}
theorem pmk_bad {a : Expr} {ta : TA} {p pos : Pos} (T : BadTxt X.prog X.K X.mg C fI) (hdp : X.A.depth + 1 < recursionLimit) (ha : PA X [a] ta) (hg : Gl X "BadStep" := by rfl)
    (he : starEach (a :: []) X.env = (false, eval a X.env) :: starEach [] X.env := by rfl) (hpl : (backTo pos (starEach [] X.env)).any (·.1) = false := by rfl) :
    L2H.PMk5 X (.Call (.Name "BadStep" p) [a] [] pos) (tMkBad C ta) := by
  intro pins s σ H Q I h
  obtain ⟨nm, q, N, bs, bm, sn, sub, ab, col, dd, k0, k1, k2, k3, k5, hC, hbm⟩ := T.cls
  refine wpAny_Call_Name_kw (ld_glob I hg T.gC ?_)
  refine PySem.W.callWith_K (h₀ := X.base) I.ok.mod.kin T.kC (thn (ha.run pos pins s σ H _ I h) fun us s1 hh => ?_) he hpl
  obtain ⟨vs, H1, I1, r1, v, ev, q1⟩ := hh
  subst ev
  refine ⟨I1.kIn, ?_⟩
  cases r1 with
  | cons rv rn =>
    rename_i v' us'
    cases rn
    show wpAny _ _ (call (.ref C) [v']) _ _ _
    obtain ⟨mb, hmb, hmbv⟩ := I1.ok.mod.blt
    have hsup : mb "super" = some (.type "super") := (hmbv "super" (by decide)).trans (by decide +kernel)
    have bk := I1.bk
    have hlim := I1.nolimit
    have XK := I1.kIn
    obtain ⟨hp, g, dr, tk, os⟩ := s1
    have k : ∀ b o, hp.get? b = some o → ((hp.push (PySem.W.kdv_tup [v'])).push (PySem.HandSPX.excO C hp.objs.size)).get? b = some o := fun b o e => Heap.get?_push_of_some _ (Heap.get?_push_of_some _ e)
    have hget : ((hp.push (PySem.W.kdv_tup [v'])).push (PySem.HandSPX.excO C hp.objs.size)).get? (hp.objs.size + 1) = some (PySem.HandSPX.excO C hp.objs.size) := by heap_get
    have hnx : X.K.lookup (hp.objs.size + 1) = none := by
      cases e : X.K.lookup (hp.objs.size + 1) with
      | none => rfl
      | some o => exact absurd (Nat.lt_of_succ_lt (Heap.lt_size (XK _ _ e))) (Nat.lt_irrefl _)
    refine wpAny_call (PySem.HandSPX.call_own F.excBase_ValueError (fun Y => PySem.HandSPX.refsVE_contains Y bm hbm) (XK _ _ hC) (PySem.W.looks_findIn XK T.iC) (fun self => PySem.W.bind_fn XK self T.tC) (by rw [sizeLine_eq]; show (1 : Nat) ≤ 16777216; decide) ?_)
    refine bad_init (s := ⟨(hp.push (PySem.W.kdv_tup [v'])).push (PySem.HandSPX.excO C hp.objs.size), g, dr, tk, os⟩) (mb := mb) T (XK.keeps k) (I1.ok.mod.glob.keeps fun b o e => k b o (bk b o e)) (hmb.keeps fun b o e => k b o (bk b o e)) hsup (hlim.keeps k) hget hnx ?_ fun h' tk' dx M => ?_
    · show (X.A.under (.builtin "type.__call__" ⟨.ref C :: [v'], []⟩)).depth < recursionLimit
      rw [make_depth]
      exact hdp
    obtain ⟨t1, hoe⟩ := M.obj
    have z : hp.objs.size + 1 + 1 ≤ dx := by
      have q := M.dbig
      simp only [Heap.size_push] at q
      exact q
    have dne : dx ≠ hp.objs.size + 1 := M.dne
    have old0 : ∀ b o, hp.get? b = some o → h'.get? b = some o := fun b o e => M.keep b o (Nat.ne_of_lt (Nat.lt_succ_of_lt (Heap.lt_size e))) (k b o e)
    obtain ⟨G', g1, g2⟩ := restrict h' fun b => decide (b ≠ hp.objs.size + 1)
    have gk : ∀ b, b ≠ hp.objs.size + 1 → G'.get? b = h'.get? b := fun b hb => g1 b (decide_eq_true hb)
    have ge : G'.get? (hp.objs.size + 1) = none := g2 _ (by simp)
    have old : ∀ b o, hp.get? b = some o → G'.get? b = some o := fun b o q => (gk b (Nat.ne_of_lt (Nat.lt_succ_of_lt (Heap.lt_size q)))).trans (old0 b o q)
    have ob : ObjOk X.prog X.w (upd H1 dx (.xd [(("number" : Str), v)])) G' dx (.xd [(("number" : Str), v)]) := ⟨_, M.ns.at (fun o q => (gk dx dne).trans q), fun f => relO_num rv f⟩
    have J : Inv X pins σ (upd H1 dx (.xd [(("number" : Str), v)])) ⟨G', g, dr, tk', os⟩ := I1.laid (t' := tk') old (show hp.objs.size ≤ dx by omega) ob
    refine ⟨rfl, ⟨hp.objs.size + 1, _, _, ⟨G', g, dr, tk', os⟩, _, .ref C, some dx, rfl, J, fun b o q => ?_, ge, hoe, ⟨rfl, rfl, fun vs hv => by cases hv; rfl⟩, rfl, rfl, ?_, rfl, I1.bare, raises_own T.exC T.tyC, q1 dx (I1.hok.fresh (show hp.objs.size ≤ dx by omega))⟩, fun a oe vs ea2 hg2 hd2 => ?_⟩
    · by_cases hb : b = hp.objs.size + 1
      · have q' : G'.get? b = some o := q
        rw [hb, ge] at q'; cases q'
      · exact (gk b hb).symm.trans q
    · rw [upd_ne (Ne.symm dne)]
      exact I1.hok.fresh (Nat.le_succ _)
    · cases ea2
      have hg3 : h'.get? (hp.objs.size + 1) = some oe := hg2
      rw [hoe] at hg3
      cases hg3
      cases hd2
      show (4 : Nat) < 6
      decide
end
end K65
namespace K65
open PySem PySem.Spec PyProof.Rows L2
/-! ### set(xs) of a list of ints -/
abbrev newSet (w : World) : Obj := { cls := .type "set", dict := none, data := .set #[] 0 (.fresh 0 0 (!w.params.followText "set-order")) }
section
variable {P : Program} {w : World} {A : Around} {E : Value → Shared → Prop} {s : Shared}
set_option maxRecDepth 100000 in
set_option maxHeartbeats 3200000 in
theorem set_list_made {l : Addr} {items : Array Value} (ns : List Int) {Q : Value → Shared → Prop} (hh : A.handled = none) (hl : s.heap.IsList l items) (hit : IntsAre items.toList ns) (hb : ns.length + 1 < scanBound)
    (h : ∀ (h' : Heap) (tk c : Nat), SetR w h' s.heap.objs.size (fun j => decide (j ∈ ns)) c → c ≤ ns.length → (∀ b o, s.heap.get? b = some o → h'.get? b = some o) → Q (.ref s.heap.objs.size) { s with heap := h', toks := tk }) :
    wpAny (model P w) A (call (.type "set") [.ref l]) Q E s := by
  have hisz : items.size = ns.length := by
    have q := IntsAre.length hit
    rw [Array.length_toList] at q
    exact q
  obtain ⟨c, tl, hmro⟩ := F.called_set.mro
  have hmade := F.called_set.made
  have hsub := F.called_set.sub
  refine wpAny_call (codeAny_of_tree ?_)
  show wpAny _ _ (callAny (.type "set") _) _ _ _
  refine wpAny_pure ⟨Code.quiet_builtin _ (by decide +kernel), codeAny_builtin F.entry_type_call ?_⟩
  rw [Around.under_plain (weight_type_call_type "set" [.ref l] []) rfl]
  have h1 := F.called_set.notType
  have h2 := F.called_set.canCreate
  have hct := F.typeCall_set_1 (.ref l)
  repeat (any_goals (first | assumption | wp_step))

  refine codeAny_mono (code_set_led1 (.ref l) (E := E) (Q₁ := fun obj s₁ => obj = .ref s.heap.objs.size ∧ s₁ = { s with heap := s.heap.push (newSet w) }) ⟨rfl, rfl⟩) fun r s₁ hr => ?_
  cases r with
  | error e => exact hr
  | ok fl =>
    cases fl with
    | ret obj =>
      obtain ⟨rfl, rfl⟩ := hr
      have hS : (s.heap.push (newSet w)).get? s.heap.objs.size = some (newSet w) := Heap.get?_push_size _ rfl
      have hT : Shared.TypeIs { s with heap := s.heap.push (newSet w) } (.ref s.heap.objs.size) "set" := ⟨_, hS, rfl⟩
      have hli := F.called_set.init.lookup
      have hbi := F.called_set.init.bind (.ref s.heap.objs.size)
      repeat (any_goals (first | assumption | wp_step))

      refine codeAny_mono (codeAny_call_builtin (R := wants (fun r s₂ => r = .none ∧ ∃ h' tk c, s₂ = { s with heap := h', toks := tk } ∧ SetR w h' s.heap.objs.size (fun j => decide (j ∈ ns)) c ∧ c ≤ ns.length ∧
          (∀ b o, s.heap.get? b = some o → h'.get? b = some o)) E) F.called_set.init.plain F.entry_set_init (check_set_init_1 hT ?_)) fun r₂ s₂ hr₂ => ?_
      · obtain ⟨ol, hol, hcl, nl, hdl⟩ := hl
        obtain ⟨ocls, odict, odata, oslots⟩ := ol
        simp only at hcl hdl
        subst hcl; subst hdl
        have hol' : (s.heap.push (newSet w)).get? l = some { cls := .type "list", dict := odict, data := .seq items nl, slots := oslots } := Heap.get?_push_of_some _ hol
        have hsls := F.sub_list_set
        have hslf := F.sub_list_frozenset
        have hne : (Value.type "list" == Value.type "dict") = false := by decide
        have hl1 : (s.heap.push (newSet w)).IsList l items := ⟨_, hol', rfl, nl, rfl⟩
        unfold Builtin.«set.__init__» noKeywords Builtin.Frozenset.updateFrom
        generalize hPI : pyIter = PI
        wp_walk
        subst hPI

        refine wpAny_pyIter_list hl1 ?_
        refine wpAny_bind (wpAny_runValue ?_)
        have hlS : l < s.heap.objs.size := Heap.lt_size hol
        have hh3 : A.in1.in1.in1.handled = none := by simp [hh]
        have hz1 : (s.heap.push (newSet w)).objs.size = s.heap.objs.size + 1 := Heap.size_push ..
        have hneI : l ≠ (s.heap.push (newSet w)).objs.size := by
          rw [Heap.size_push]; exact Nat.ne_of_lt (Nat.lt_succ_of_lt hlS)
        have hSf : s.heap.objs.size ∉ [(s.heap.push (newSet w)).objs.size, l] := by
          rw [Heap.size_push]; simp only [List.mem_cons, List.mem_singleton, List.not_mem_nil, or_false, not_or]
          exact ⟨Nat.ne_of_lt (Nat.lt_succ_self _), Nat.ne_of_gt hlS⟩
        have hval : ∀ (i : Nat) (v : Value), items[i]? = some v → ∃ k t, ns[i]? = some k ∧ v = .int k t := fun i v hv => by
          have hi : i < ns.length := by rw [← hisz]; exact (Array.getElem?_eq_some_iff.mp hv).1
          obtain ⟨t, e⟩ := PyProof.Rows.IntsAre.int_at hit i v (by rw [Array.getElem?_toList]; exact hv)
          refine ⟨ns[i], t, List.getElem?_eq_getElem hi, ?_⟩
          rw [e, List.getD_eq_getElem?_getD, List.getElem?_eq_getElem hi] <;> rfl
        refine set_update_ints ((Walks.list hh3 _ l hneI items).toS) s.heap.objs.size
          hSf ns hisz hb hval (items.size - 0) 0 _ (by omega) (Nat.zero_le _)
          ⟨⟨_, Heap.get?_push_size _ rfl, rfl, rfl⟩, (hl1.push _)⟩ ?hS0 ?hR
        case hS0 =>
          have hget : ((s.heap.push (newSet w)).push { cls := .type "list_iterator", data := .fields #[.ref l, .int 0 0] }).get? s.heap.objs.size
              = some (newSet w) := Heap.get?_push_of_some _ hS
          exact ⟨0, Nat.le_refl 0, setR_new_at hget⟩
        case hR =>
          intro s' c' hm hc' hS'
          obtain ⟨h', g2, d', tk', os'⟩ := s'
          have eg : g2 = s.gens := hm.gens
          have ed : d' = s.drawn := hm.drawn
          have eo : os' = s.os := hm.os
          subst eg; subst ed; subst eo
          show wpAny _ _ _ _ _ _
          refine wpAny_pure ?_
          show wpAny _ _ (ret Value.none) _ _ _
          rw [hisz] at hc'
          refine wpAny_pure ⟨rfl, h', tk', c', rfl, hS', hc', fun b o e => ?_⟩
          have hb0 : b < s.heap.objs.size := Heap.lt_size e
          have hb1 : b ≠ s.heap.objs.size := Nat.ne_of_lt hb0
          have hb2 : b ≠ (s.heap.push (newSet w)).objs.size := by
            rw [Heap.size_push]; exact Nat.ne_of_lt (Nat.lt_succ_of_lt hb0)
          exact hm.heap b o (by simp only [List.mem_cons, List.mem_singleton, List.not_mem_nil, or_false, not_or]; exact ⟨hb1, hb2⟩) (Heap.get?_push_of_some _ (Heap.get?_push_of_some _ e))

      · cases r₂ with
        | error e => exact hr₂
        | ok fl₂ =>
          cases fl₂ with
          | ret r =>
            obtain ⟨rfl, h', tk, c', rfl, hS', hc', hk'⟩ := hr₂
            repeat (any_goals (first | assumption | wp_step))
            exact h _ _ _ hS' hc' hk'
          | _ => exact hr₂.elim
    | _ => exact hr.elim

end
/-- set(xs) -/
def rSetL (K : PySem.W.Frag) (w : World) : List V → Hp → VK → Prop := fun vs H Q => ∃ (a : Addr) (ns : List Int), vs = [V.ref a] ∧ SqL K H a (ns.map V.int) ∧ ns.length ≤ 60 ∧
  ∀ (p : Addr) (c : Nat), c ≤ ns.length → H p = none → Q (.ref p) (upd H p (SetO w p (fun j => decide (j ∈ ns)) c))
theorem cr_setL {X : Cx} (hc : X.calm = true) : CallR X (.type "set") (rSetL X.K X.w) := by
  intro pins s σ H vs us Q I r h
  obtain ⟨a, ns, rfl, hs, hl, q⟩ := h
  obtain ⟨u, rfl, ru⟩ := vals1 r
  cases ru
  obtain ⟨its, rv, pl, hz⟩ := I.list hs
  refine set_list_made ns (I.ok.hd hc) pl.isList (intsAre_of rv) (by unfold scanBound; omega) fun h' tk c R hcl k => ?_
  have new : ObjOk X.prog X.w (upd H s.heap.objs.size (SetO X.w s.heap.objs.size (fun j => decide (j ∈ ns)) c)) h' s.heap.objs.size (SetO X.w s.heap.objs.size (fun j => decide (j ∈ ns)) c) := setO_new R
  exact ⟨.ref _, _, I.laid (t' := tk) k (Nat.le_refl _) new, rfl, q _ c hcl (I.hok.fresh (Nat.le_refl _))⟩
end K65
namespace K65
open PySem PySem.Spec PyProof.Rows L2
/-! ### terms -/
inductive Tm where
  | v (n : Int)
  | a (f : Str) (as : List Tm)
mutual
def Tm.size : Tm → Nat
  | .v _ => 1
  | .a _ as => 1 + Tm.sizes as
def Tm.sizes : List Tm → Nat
  | [] => 0
  | t :: r => t.size + Tm.sizes r
end
mutual
def Tm.depth : Tm → Nat
  | .v _ => 1
  | .a _ as => 1 + Tm.depths as
def Tm.depths : List Tm → Nat
  | [] => 0
  | t :: r => max t.depth (Tm.depths r)
end
theorem Tm.depth_pos (t : Tm) : 1 ≤ t.depth := by
  cases t with
  | v n => exact Nat.le_refl 1
  | a f as => show 1 ≤ 1 + _; omega
mutual
def Tm.deq : (s t : Tm) → Decidable (s = t)
  | .v n, .v m => if h : n = m then isTrue (by rw [h]) else isFalse (fun e => h (Tm.v.inj e))
  | .v _, .a _ _ => isFalse (fun e => nomatch e)
  | .a _ _, .v _ => isFalse (fun e => nomatch e)
  | .a f as, .a g bs => if h : f = g then match Tm.deqs as bs with
     | Decidable.isTrue h2 => isTrue (by rw [h, h2])
     | Decidable.isFalse h2 => isFalse (fun e => h2 (Tm.a.inj e).2)
     else isFalse (fun e => h (Tm.a.inj e).1)
def Tm.deqs : (s t : List Tm) → Decidable (s = t)
  | [], [] => isTrue rfl
  | [], _ :: _ => isFalse (fun e => nomatch e)
  | _ :: _, [] => isFalse (fun e => nomatch e)
  | s :: ss, t :: ts => match Tm.deq s t, Tm.deqs ss ts with
     | Decidable.isTrue h1, Decidable.isTrue h2 => isTrue (by rw [h1, h2])
     | Decidable.isFalse h, _ => isFalse (fun e => h (List.cons.inj e).1)
     | _, Decidable.isFalse h => isFalse (fun e => h (List.cons.inj e).2)
end
instance : DecidableEq Tm := Tm.deq
/-! ### heaps: what stays; terms as they lie -/
/-- every tuple stays -/
def Tups (H H' : Hp) : Prop := ∀ b xs, H b = some (.tup xs) → H' b = some (.tup xs)
theorem Tups.refl (H : Hp) : Tups H H := fun _ _ h => h
theorem Tups.trans {H H1 H2 : Hp} (a : Tups H H1) (b : Tups H1 H2) : Tups H H2 := fun c o h => b c o (a c o h)
theorem Tups.same {H H' : Hp} (s : Same H H') : Tups H H' := fun b xs h => s b _ h
theorem Same.new {H : Hp} {p : Addr} (h : H p = none) (o : HO) : Same H (upd H p o) := fun b u q => by rw [upd_ne (ne_of_none q h)]; exact q
/-- an object that H does not know may change -/
theorem Same.mut {H H' : Hp} {p : Addr} {o : HO} (e : Same H H') (h : H p = none) : Same H (upd H' p o) := fun b u hb => by
  rw [upd_ne (ne_of_none hb h)]
  exact e b u hb
/-- a list, a dict changes: the tuples stay -/
theorem Tups.mut {H H' : Hp} {p : Addr} {o u : HO} (e : Tups H H') (h : H' p = some u) (nt : ∀ xs, u ≠ .tup xs) : Tups H (upd H' p o) := fun b xs hb => by
  have z := e b xs hb
  rw [upd_ne (fun y => by rw [y, h] at z; exact nt xs (Option.some.inj z))]
  exact z
theorem tups_lst {H : Hp} {p : Addr} {o : HO} {xs : List V} (h : H p = some (.lst xs)) : Tups H (upd H p o) := (Tups.refl H).mut h fun _ z => by cases z
mutual
/-- the value x is the term t -/
def IsTm (H : Hp) : Tm → V → Prop
  | .v n, x => x = .int n
  | .a f as, x => ∃ (p : Addr) (vs : List V), x = .ref p ∧ H p = some (.tup (.str f :: vs)) ∧ IsTms H as vs
def IsTms (H : Hp) : List Tm → List V → Prop
  | [], vs => vs = []
  | t :: ts, vs => ∃ (x : V) (r : List V), vs = x :: r ∧ IsTm H t x ∧ IsTms H ts r
end
mutual
theorem IsTm.mono {H H' : Hp} (s : Tups H H') : ∀ {t : Tm} {x : V}, IsTm H t x → IsTm H' t x
  | .v n, x, h => h
  | .a f as, x, h => by
    obtain ⟨p, vs, e, hp, hs⟩ := h
    exact ⟨p, vs, e, s _ _ hp, IsTms.mono s hs⟩
theorem IsTms.mono {H H' : Hp} (s : Tups H H') : ∀ {ts : List Tm} {vs : List V}, IsTms H ts vs → IsTms H' ts vs
  | [], vs, h => h
  | t :: ts, vs, h => by
    obtain ⟨x, r, e, h1, h2⟩ := h
    exact ⟨x, r, e, IsTm.mono s h1, IsTms.mono s h2⟩
end
theorem IsTms.length {H : Hp} : ∀ {ts : List Tm} {vs : List V}, IsTms H ts vs → vs.length = ts.length
  | [], vs, h => by rw [show vs = [] from h]; rfl
  | t :: ts, vs, h => by
    obtain ⟨x, r, e, h1, h2⟩ := h
    rw [e]
    exact congrArg Nat.succ (IsTms.length h2)
theorem IsTms.get {H : Hp} : ∀ {ts : List Tm} {vs : List V} {i : Nat} {x : V}, IsTms H ts vs → vs[i]? = some x → ∃ t, ts[i]? = some t ∧ IsTm H t x
  | [], vs, i, x, h, e => by rw [show vs = [] from h] at e; simp at e
  | t :: ts, vs, i, x, h, e => by
    obtain ⟨y, r, rfl, h1, h2⟩ := h
    cases i with
    | zero => simp at e; subst e; exact ⟨t, rfl, h1⟩
    | succ i => exact IsTms.get (ts := ts) (vs := r) (i := i) h2 (by simpa using e)
theorem IsTms.nth {H : Hp} : ∀ {ts : List Tm} {vs : List V} {i : Nat} {t : Tm}, IsTms H ts vs → ts[i]? = some t → ∃ x, vs[i]? = some x ∧ IsTm H t x
  | [], vs, i, x, h, e => by simp at e
  | u :: ts, vs, i, t, h, e => by
    obtain ⟨y, r, rfl, h1, h2⟩ := h
    cases i with
    | zero => simp at e; subst e; exact ⟨y, rfl, h1⟩
    | succ i => exact IsTms.nth (ts := ts) (vs := r) (i := i) h2 (by simpa using e)
theorem IsTms.app {H : Hp} : ∀ {ts ts' : List Tm} {vs vs' : List V}, IsTms H ts vs → IsTms H ts' vs' → IsTms H (ts ++ ts') (vs ++ vs')
  | [], ts', vs, vs', h, h' => by rw [show vs = [] from h]; exact h'
  | t :: ts, ts', vs, vs', h, h' => by
    obtain ⟨x, r, rfl, h1, h2⟩ := h
    exact ⟨x, r ++ vs', rfl, h1, IsTms.app h2 h'⟩
theorem IsTms.one {H : Hp} {t : Tm} {x : V} (h : IsTm H t x) : IsTms H [t] [x] := ⟨x, [], rfl, h, rfl⟩
theorem IsTms.take {H : Hp} : ∀ {ts : List Tm} {vs : List V} (n : Nat), IsTms H ts vs → IsTms H (ts.take n) (vs.take n)
  | _, vs, 0, h => by simp [IsTms]
  | [], vs, n + 1, h => by rw [show vs = [] from h]; simp [IsTms]
  | t :: ts, vs, n + 1, h => by
    obtain ⟨x, r, rfl, h1, h2⟩ := h
    exact ⟨x, r.take n, rfl, h1, IsTms.take n h2⟩
theorem IsTms.drop {H : Hp} : ∀ {ts : List Tm} {vs : List V} (n : Nat), IsTms H ts vs → IsTms H (ts.drop n) (vs.drop n)
  | _, vs, 0, h => h
  | [], vs, n + 1, h => by rw [show vs = [] from h]; simp [IsTms]
  | t :: ts, vs, n + 1, h => by
    obtain ⟨x, r, rfl, h1, h2⟩ := h
    exact IsTms.drop n h2
/-! ### the text -/
abbrev s_dummy : Stmt := top 0
abbrev s_is_variable : Stmt := top 5
abbrev s_size : Stmt := top 6
abbrev s_depth : Stmt := top 7
abbrev s_symbols : Stmt := top 8
abbrev s_variables : Stmt := top 9
abbrev s_has_argument : Stmt := top 10
abbrev s_subterm : Stmt := top 11
abbrev s_replace : Stmt := top 12
abbrev s_substitute : Stmt := top 13
abbrev s_is_wide : Stmt := top 17
abbrev s_named_equation : Stmt := top 18
abbrev s_binds_exactly : Stmt := top 19
abbrev s_apply_step : Stmt := top 20
abbrev s_visited : Stmt := top 21
abbrev s_leads : Stmt := top 22
abbrev s_is_derivation : Stmt := top 23
abbrev s_value : Stmt := top 25
abbrev s_first_difference : Stmt := top 26
abbrev s_equation_variables : Stmt := top 27
abbrev s_counterexample : Stmt := top 28
abbrev s_holds : Stmt := top 29
abbrev s_L_mix : Stmt := top 31
abbrev s_L_number : Stmt := top 32
abbrev s_L_state : Stmt := top 33
abbrev s_L_draw : Stmt := top 34
abbrev s_L_word : Stmt := top 35
abbrev s_L_names : Stmt := top 36
abbrev s_L_operations : Stmt := top 37
abbrev s_L_leaf : Stmt := top 38
abbrev s_L_term : Stmt := top 39
abbrev s_L_subterm : Stmt := top 40
abbrev s_L_replace : Stmt := top 41
abbrev s_L_positions : Stmt := top 42
abbrev s_L_substitute : Stmt := top 43
abbrev s_L_variables : Stmt := top 44
abbrev s_L_pattern : Stmt := top 45
abbrev s_L_step : Stmt := top 46
abbrev s_L_tuples : Stmt := top 47
abbrev s_L_model : Stmt := top 48
abbrev s_L_value : Stmt := top 49
abbrev s_L_equation_names : Stmt := top 50
abbrev s_L_first_difference : Stmt := top 51
abbrev s_L_true_step : Stmt := top 52
abbrev s_L_line : Stmt := top 53
abbrev s_L_by_stage : Stmt := top 54
abbrev s_L_spoilt : Stmt := top 55
abbrev s_L_refuses : Stmt := top 56
abbrev s_L_turned : Stmt := top 57
abbrev s_law : Stmt := top 58
abbrev Fnn (K : PySem.W.Frag) (x : Str) (st : Stmt) (f : Addr) (fd : FuncData) : Prop := FunD K x x (defArgs st) (defBody st) (defScope st) [] [] f fd
/-- what the top has written -/
structure TopF (K : PySem.W.Frag) (mg : Str → Option Value) : Prop where
  m_is_variable : mg "is_variable" = some (.ref (He.ga K "is_variable"))
  f_is_variable : ∃ fd, Fnn K "is_variable" s_is_variable (He.ga K "is_variable") fd
  m_size : mg "size" = some (.ref (He.ga K "size"))
  f_size : ∃ fd, Fnn K "size" s_size (He.ga K "size") fd
  m_depth : mg "depth" = some (.ref (He.ga K "depth"))
  f_depth : ∃ fd, Fnn K "depth" s_depth (He.ga K "depth") fd
  m_symbols : mg "symbols" = some (.ref (He.ga K "symbols"))
  f_symbols : ∃ fd, Fnn K "symbols" s_symbols (He.ga K "symbols") fd
  m_variables : mg "variables" = some (.ref (He.ga K "variables"))
  f_variables : ∃ fd, Fnn K "variables" s_variables (He.ga K "variables") fd
  m_has_argument : mg "has_argument" = some (.ref (He.ga K "has_argument"))
  f_has_argument : ∃ fd, Fnn K "has_argument" s_has_argument (He.ga K "has_argument") fd
  m_subterm : mg "subterm" = some (.ref (He.ga K "subterm"))
  f_subterm : ∃ fd, Fnn K "subterm" s_subterm (He.ga K "subterm") fd
  m_replace : mg "replace" = some (.ref (He.ga K "replace"))
  f_replace : ∃ fd, Fnn K "replace" s_replace (He.ga K "replace") fd
  m_substitute : mg "substitute" = some (.ref (He.ga K "substitute"))
  f_substitute : ∃ fd, Fnn K "substitute" s_substitute (He.ga K "substitute") fd
  m_is_wide : mg "is_wide" = some (.ref (He.ga K "is_wide"))
  f_is_wide : ∃ fd, Fnn K "is_wide" s_is_wide (He.ga K "is_wide") fd
  m_named_equation : mg "named_equation" = some (.ref (He.ga K "named_equation"))
  f_named_equation : ∃ fd, Fnn K "named_equation" s_named_equation (He.ga K "named_equation") fd
  m_binds_exactly : mg "binds_exactly" = some (.ref (He.ga K "binds_exactly"))
  f_binds_exactly : ∃ fd, Fnn K "binds_exactly" s_binds_exactly (He.ga K "binds_exactly") fd
  m_apply_step : mg "apply_step" = some (.ref (He.ga K "apply_step"))
  f_apply_step : ∃ fd, Fnn K "apply_step" s_apply_step (He.ga K "apply_step") fd
  m_visited : mg "visited" = some (.ref (He.ga K "visited"))
  f_visited : ∃ fd, Fnn K "visited" s_visited (He.ga K "visited") fd
  m_leads : mg "leads" = some (.ref (He.ga K "leads"))
  f_leads : ∃ fd, Fnn K "leads" s_leads (He.ga K "leads") fd
  m_is_derivation : mg "is_derivation" = some (.ref (He.ga K "is_derivation"))
  f_is_derivation : ∃ fd, Fnn K "is_derivation" s_is_derivation (He.ga K "is_derivation") fd
  m_value : mg "value" = some (.ref (He.ga K "value"))
  f_value : ∃ fd, Fnn K "value" s_value (He.ga K "value") fd
  m_first_difference : mg "first_difference" = some (.ref (He.ga K "first_difference"))
  f_first_difference : ∃ fd, Fnn K "first_difference" s_first_difference (He.ga K "first_difference") fd
  m_equation_variables : mg "equation_variables" = some (.ref (He.ga K "equation_variables"))
  f_equation_variables : ∃ fd, Fnn K "equation_variables" s_equation_variables (He.ga K "equation_variables") fd
  m_counterexample : mg "counterexample" = some (.ref (He.ga K "counterexample"))
  f_counterexample : ∃ fd, Fnn K "counterexample" s_counterexample (He.ga K "counterexample") fd
  m_holds : mg "holds" = some (.ref (He.ga K "holds"))
  f_holds : ∃ fd, Fnn K "holds" s_holds (He.ga K "holds") fd
  m_L_mix : mg "_law_mix" = some (.ref (He.ga K "_law_mix"))
  f_L_mix : ∃ fd, Fnn K "_law_mix" s_L_mix (He.ga K "_law_mix") fd
  m_L_number : mg "_law_number" = some (.ref (He.ga K "_law_number"))
  f_L_number : ∃ fd, Fnn K "_law_number" s_L_number (He.ga K "_law_number") fd
  m_L_state : mg "_law_state" = some (.ref (He.ga K "_law_state"))
  f_L_state : ∃ fd, Fnn K "_law_state" s_L_state (He.ga K "_law_state") fd
  m_L_draw : mg "_law_draw" = some (.ref (He.ga K "_law_draw"))
  f_L_draw : ∃ fd, Fnn K "_law_draw" s_L_draw (He.ga K "_law_draw") fd
  m_L_word : mg "_law_word" = some (.ref (He.ga K "_law_word"))
  f_L_word : ∃ fd, Fnn K "_law_word" s_L_word (He.ga K "_law_word") fd
  m_L_names : mg "_law_names" = some (.ref (He.ga K "_law_names"))
  f_L_names : ∃ fd, Fnn K "_law_names" s_L_names (He.ga K "_law_names") fd
  m_L_operations : mg "_law_operations" = some (.ref (He.ga K "_law_operations"))
  f_L_operations : ∃ fd, Fnn K "_law_operations" s_L_operations (He.ga K "_law_operations") fd
  m_L_leaf : mg "_law_leaf" = some (.ref (He.ga K "_law_leaf"))
  f_L_leaf : ∃ fd, Fnn K "_law_leaf" s_L_leaf (He.ga K "_law_leaf") fd
  m_L_term : mg "_law_term" = some (.ref (He.ga K "_law_term"))
  f_L_term : ∃ fd, Fnn K "_law_term" s_L_term (He.ga K "_law_term") fd
  m_L_subterm : mg "_law_subterm" = some (.ref (He.ga K "_law_subterm"))
  f_L_subterm : ∃ fd, Fnn K "_law_subterm" s_L_subterm (He.ga K "_law_subterm") fd
  m_L_replace : mg "_law_replace" = some (.ref (He.ga K "_law_replace"))
  f_L_replace : ∃ fd, Fnn K "_law_replace" s_L_replace (He.ga K "_law_replace") fd
  m_L_positions : mg "_law_positions" = some (.ref (He.ga K "_law_positions"))
  f_L_positions : ∃ fd, Fnn K "_law_positions" s_L_positions (He.ga K "_law_positions") fd
  m_L_substitute : mg "_law_substitute" = some (.ref (He.ga K "_law_substitute"))
  f_L_substitute : ∃ fd, Fnn K "_law_substitute" s_L_substitute (He.ga K "_law_substitute") fd
  m_L_variables : mg "_law_variables" = some (.ref (He.ga K "_law_variables"))
  f_L_variables : ∃ fd, Fnn K "_law_variables" s_L_variables (He.ga K "_law_variables") fd
  m_L_pattern : mg "_law_pattern" = some (.ref (He.ga K "_law_pattern"))
  f_L_pattern : ∃ fd, Fnn K "_law_pattern" s_L_pattern (He.ga K "_law_pattern") fd
  m_L_step : mg "_law_step" = some (.ref (He.ga K "_law_step"))
  f_L_step : ∃ fd, Fnn K "_law_step" s_L_step (He.ga K "_law_step") fd
  m_L_tuples : mg "_law_tuples" = some (.ref (He.ga K "_law_tuples"))
  f_L_tuples : ∃ fd, Fnn K "_law_tuples" s_L_tuples (He.ga K "_law_tuples") fd
  m_L_model : mg "_law_model" = some (.ref (He.ga K "_law_model"))
  f_L_model : ∃ fd, Fnn K "_law_model" s_L_model (He.ga K "_law_model") fd
  m_L_value : mg "_law_value" = some (.ref (He.ga K "_law_value"))
  f_L_value : ∃ fd, Fnn K "_law_value" s_L_value (He.ga K "_law_value") fd
  m_L_equation_names : mg "_law_equation_names" = some (.ref (He.ga K "_law_equation_names"))
  f_L_equation_names : ∃ fd, Fnn K "_law_equation_names" s_L_equation_names (He.ga K "_law_equation_names") fd
  m_L_first_difference : mg "_law_first_difference" = some (.ref (He.ga K "_law_first_difference"))
  f_L_first_difference : ∃ fd, Fnn K "_law_first_difference" s_L_first_difference (He.ga K "_law_first_difference") fd
  m_L_true_step : mg "_law_true_step" = some (.ref (He.ga K "_law_true_step"))
  f_L_true_step : ∃ fd, Fnn K "_law_true_step" s_L_true_step (He.ga K "_law_true_step") fd
  m_L_line : mg "_law_line" = some (.ref (He.ga K "_law_line"))
  f_L_line : ∃ fd, Fnn K "_law_line" s_L_line (He.ga K "_law_line") fd
  m_L_by_stage : mg "_law_by_stage" = some (.ref (He.ga K "_law_by_stage"))
  f_L_by_stage : ∃ fd, Fnn K "_law_by_stage" s_L_by_stage (He.ga K "_law_by_stage") fd
  m_L_spoilt : mg "_law_spoilt" = some (.ref (He.ga K "_law_spoilt"))
  f_L_spoilt : ∃ fd, Fnn K "_law_spoilt" s_L_spoilt (He.ga K "_law_spoilt") fd
  m_L_refuses : mg "_law_refuses" = some (.ref (He.ga K "_law_refuses"))
  f_L_refuses : ∃ fd, Fnn K "_law_refuses" s_L_refuses (He.ga K "_law_refuses") fd
  m_L_turned : mg "_law_turned" = some (.ref (He.ga K "_law_turned"))
  f_L_turned : ∃ fd, Fnn K "_law_turned" s_L_turned (He.ga K "_law_turned") fd
  m_law : mg "law" = some (.ref (He.ga K "law"))
  f_law : ∃ fd, Fnn K "law" s_law (He.ga K "law") fd
  z_isinstance : mg "isinstance" = none
  z_int : mg "int" = none
  z_len : mg "len" = none
  z_max : mg "max" = none
  z_tuple : mg "tuple" = none
  z_sorted : mg "sorted" = none
  z_set : mg "set" = none
  z_range : mg "range" = none
  z_enumerate : mg "enumerate" = none
  z_list : mg "list" = none
  z_dict : mg "dict" = none
  z_super : mg "super" = none
  z_ValueError : mg "ValueError" = none
  i_WS : ∃ t, mg "WIDE_SIZE" = some (.int 4000 t)
  i_WD : ∃ t, mg "WIDE_DEPTH" = some (.int 120 t)
/-- a def that may be called: x's promise at level k -/
def Cal (P : Program) (w : World) (K : PySem.W.Frag) (mg : Str → Option Value) (base : Heap) (CX : CXT) (k : Nat) (x : Str) (ps : List Str) (sp : Sp) : Prop :=
  ∃ (f : Addr) (fd : FuncData), mg x = some (.ref f) ∧ PySem.W.keepIn K (.ref f) = true ∧ Binds K fd ps [] ∧ FnOk P w K mg base CX k f fd ps sp
section
variable {X : Cx} {CX : CXT} {k : Nat} {ps : List Str} {sp : Sp} {E : XK} {W : L2.St → XK} {x : Str} {p pos : Pos} {e : Expr} {es : List Expr} {t : TA}
theorem pe_cal (c : Cal X.prog X.w X.K X.mg X.base CX k x ps sp) (hr : Room k X.A) (hg : Gl X x) (hx : Passes CX X E) (ha : PA X (e :: es) t) (hdb : (x == ("__debug__" : Str)) = false := by decide)
    (he : starEach (e :: es) X.env = (false, eval e X.env) :: starEach es X.env := by rfl) (hpl : (backTo pos (starEach es X.env)).any (·.1) = false := by rfl) : PE X (.Call (.Name x p) (e :: es) [] pos) (tCall sp [] E t) := by
  obtain ⟨f, fd, m, kp, b, G⟩ := c
  exact pe_call G hr hg m kp b .nil hx ha hdb he hpl
theorem pe_calS (c : Cal X.prog X.w X.K X.mg X.base CX k x ps sp) (hr : Room k X.A) (hg : Gl X x) (hx : ∀ σ, PassesAt CX X σ (W σ)) (ha : PA X (e :: es) t) (hdb : (x == ("__debug__" : Str)) = false := by decide)
    (he : starEach (e :: es) X.env = (false, eval e X.env) :: starEach es X.env := by rfl) (hpl : (backTo pos (starEach es X.env)).any (·.1) = false := by rfl) : PE X (.Call (.Name x p) (e :: es) [] pos) (tCallS sp W t) := by
  obtain ⟨f, fd, m, kp, b, G⟩ := c
  exact pe_callS G hr hg m kp b hx ha hdb he hpl
end
section
variable {P : Program} {w : World} {K : PySem.W.Frag} {mg : Str → Option Value} {base : Heap} {CX : CXT} {k : Nat} {x : Str} {ps : List Str} {sp sp' : Sp}
theorem Cal.mono {j : Nat} (c : Cal P w K mg base CX j x ps sp) (h : j ≤ k) : Cal P w K mg base CX k x ps sp := by
  obtain ⟨f, fd, m, kp, b, G⟩ := c
  exact ⟨f, fd, m, kp, b, G.mono h⟩
theorem Cal.imp (c : Cal P w K mg base CX k x ps sp) (h : ∀ vs H Q E, sp' vs H Q E → sp vs H Q E) : Cal P w K mg base CX k x ps sp' := by
  obtain ⟨f, fd, m, kp, b, G⟩ := c
  exact ⟨f, fd, m, kp, b, G.imp h⟩
/-- a def's body walked -/
theorem Cal.mk {st : Stmt} {f : Addr} {N : List Str} (m : mg x = some (.ref f)) (F : ∃ fd, Fnn K x st f fd)
    (hb : ∀ (kV doc pm : Value) (an : Option Addr) (cdv ct : Value) (us : List Value), us.length = ps.length → bindArgs (PySem.W.fnOf x x (defArgs st) (defBody st) (defScope st) .none kV doc pm an cdv ct) ⟨us, []⟩ = pure (ps.zip us))
    (S : FnScope N ps (defScope st)) (len : ∀ vs H Q E, sp vs H Q E → vs.length = ps.length)
    (hbody : ∀ (cdv : Value) (A : Around) (outer : List Env) (s : Shared) (H : Hp) (vs : List V) (Q : VK) (E : XK), Room k (A.deeper (envOfC x (defScope st) s.heap.objs.size f cdv)) → sp vs H Q E →
      ∃ t, PSs (cxOf CX P w K mg base N x (defScope st) f cdv A outer s H E) (defBody st) t ∧ t { nx := fun _ H' => Q .non H', rt := Q } (start N vs) H) : Cal P w K mg base CX (k + 1) x ps sp := by
  obtain ⟨fd, F⟩ := F
  refine ⟨f, fd, m, F.kp, ?_, F.ok S len hbody⟩
  obtain ⟨oc, od, dV, kV, doc, pm, an, cdv, ct, osl, rfl, _, _, hd, _⟩ := F.ex
  rcases hd with ⟨_, rfl⟩ | ⟨z, _⟩
  · exact .all (hb kV doc pm an cdv ct)
  · exact absurd rfl z
/-- .. a def that lets no exception out -/
theorem Cal.mk0 {st : Stmt} {f : Addr} {N : List Str} (m : mg x = some (.ref f)) (F : ∃ fd, Fnn K x st f fd)
    (hb : ∀ (kV doc pm : Value) (an : Option Addr) (cdv ct : Value) (us : List Value), us.length = ps.length → bindArgs (PySem.W.fnOf x x (defArgs st) (defBody st) (defScope st) .none kV doc pm an cdv ct) ⟨us, []⟩ = pure (ps.zip us))
    (S : FnScope N ps (defScope st)) (len : ∀ vs H Q E, sp vs H Q E → vs.length = ps.length)
    (hbody : ∀ (cdv : Value) (A : Around) (outer : List Env) (s : Shared) (H : Hp) (vs : List V) (Q : VK) (E : XK), Room k (A.deeper (envOfC x (defScope st) s.heap.objs.size f cdv)) → sp vs H Q E →
      ∃ t, PSs (cxOf CX0 P w K mg base N x (defScope st) f cdv A outer s H E).nox (defBody st) t ∧ t { nx := fun _ H' => Q .non H', rt := Q } (start N vs) H) : Cal P w K mg base CX0 (k + 1) x ps sp :=
  Cal.mk m F hb S len fun cdv A outer s H vs Q E hr h => by
    obtain ⟨t, a, b⟩ := hbody cdv A outer s H vs Q E hr h
    exact ⟨t, a.nox, b⟩
/-- nothing is promised -/
theorem Cal.none {st : Stmt} {f : Addr} (m : mg x = some (.ref f)) (F : ∃ fd, Fnn K x st f fd)
    (hb : ∀ (kV doc pm : Value) (an : Option Addr) (cdv ct : Value) (us : List Value), us.length = ps.length → bindArgs (PySem.W.fnOf x x (defArgs st) (defBody st) (defScope st) .none kV doc pm an cdv ct) ⟨us, []⟩ = pure (ps.zip us))
    (no : ∀ vs H Q E, ¬ sp vs H Q E) : Cal P w K mg base CX k x ps sp := by
  obtain ⟨fd, F⟩ := F
  refine ⟨f, fd, m, F.kp, ?_, ⟨fun vs H Q E h => absurd h (no vs H Q E), fun A outer s H args us vs Q E _ _ _ _ h => absurd h (no vs H Q E)⟩⟩
  obtain ⟨oc, od, dV, kV, doc, pm, an, cdv, ct, osl, rfl, _, _, hd, _⟩ := F.ex
  rcases hd with ⟨_, rfl⟩ | ⟨z, _⟩
  · exact .all (hb kV doc pm an cdv ct)
  · exact absurd rfl z
end
/-! ### readings -/
theorem sqt {K : PySem.W.Frag} {H : Hp} {p : Addr} {xs : List V} (h : H p = some (.tup xs)) : SqT K H p xs := .inl (.inl h)
theorem sql {K : PySem.W.Frag} {H : Hp} {p : Addr} {xs : List V} (h : H p = some (.lst xs)) : SqL K H p xs := .inl (.inl h)
section
variable {σ : L2.St} {H : Hp} {Q : VK} {D : Ends} {ta tb te : TE} {t u tw tz : TS} {c : TT} {i : Nat} {v : V} {QB : Bool → Hp → Prop} {QA : List V → Hp → Prop}
theorem rd_var (h : σ[i]? = some (some v)) (q : Q v H) : tVar i σ H Q := ⟨v, h, q⟩
theorem rd_c (q : Q v H) : tC v σ H Q := q
theorem rd_seq (h : t { D with nx := u D } σ H) : tSeq t u D σ H := h
theorem rd_set (h : te σ H fun x H1 => D.nx (σ.set i (some x)) H1) : tAsg te (gName i) D σ H := h
theorem rd_asg {g : TG} (h : te σ H fun x H1 => g x σ H1 D.nx) : tAsg te g D σ H := h
theorem rd_let (h : te σ H fun x H1 => u D (σ.set i (some x)) H1) : tSeq (tAsg te (gName i)) u D σ H := h
theorem rd_ret (h : te σ H D.rt) : tRet te D σ H := h
theorem rd_drop (h : te σ H fun _ H1 => D.nx σ H1) : tDrop te D σ H := h
theorem rd_do (h : te σ H fun _ H1 => u D σ H1) : tSeq (tDrop te) u D σ H := h
theorem rd_if (h : c σ H fun b H1 => if b = true then t D σ H1 else u D σ H1) : tIfS c t u D σ H := h
theorem rd_when (h : c σ H fun b H1 => if b = true then t { D with nx := u D } σ H1 else tw { D with nx := u D } σ H1) : tSeq (tIfS c t tw) u D σ H := h
theorem rd_name {QS : L2.St → Hp → Prop} (h : QS (σ.set i (some v)) H) : gName i v σ H QS := h
theorem rd_nx {f b d : L2.St → Hp → Prop} {g : VK} (h : f σ H) : Ends.nx ⟨f, g, b, d⟩ σ H := h
theorem rd_when1 (h : c σ H fun b H1 => if b = true then t { D with nx := u D } σ H1 else u D σ H1) : tSeq (tIfS c t tNext) u D σ H := h
theorem rd_next (h : D.nx σ H) : tNext D σ H := h
theorem rd_B (h : te σ H fun x H1 => ∃ b, x = .bl b ∧ QB b H1) : tB te σ H QB := h
theorem rd_test (h : te σ H fun x H1 => ∃ b, x = .bl b ∧ QB b H1) : tTest te σ H QB := h
theorem rd_not (h : c σ H fun b H1 => QB (!b) H1) : tNot c σ H QB := h
theorem rd_nil (q : QA [] H) : tNil σ H QA := q
theorem rd_cons {tr : TA} (h : te σ H fun x H1 => tr σ H1 fun xs H2 => QA (x :: xs) H2) : tCons te tr σ H QA := h
theorem rd_call {sp : Sp} {E : XK} {t : TA} (h : t σ H fun vs H1 => sp (vs ++ []) H1 Q E) : tCall sp [] E t σ H Q := h
theorem rd_callS {sp : Sp} {E : L2.St → XK} {t : TA} (h : t σ H fun vs H1 => sp vs H1 Q (E σ)) : tCallS sp E t σ H Q := h
theorem rd_call1 {sp : Sp} {E : XK} (h : ta σ H fun x H1 => sp [x] H1 Q E) : tCall sp [] E (tCons ta tNil) σ H Q := h
theorem rd_call2 {sp : Sp} {E : XK} (h : ta σ H fun x H1 => tb σ H1 fun y H2 => sp [x, y] H2 Q E) : tCall sp [] E (tCons ta (tCons tb tNil)) σ H Q := h
theorem rd_call3 {sp : Sp} {E : XK} (h : ta σ H fun x H1 => tb σ H1 fun y H2 => te σ H2 fun z H3 => sp [x, y, z] H3 Q E) : tCall sp [] E (tCons ta (tCons tb (tCons te tNil))) σ H Q := h
theorem rd_B1 {r : List V → Hp → VK → Prop} (h : ta σ H fun x H1 => r [x] H1 Q) : tCB r (tCons ta tNil) σ H Q := h
theorem rd_B2 {r : List V → Hp → VK → Prop} (h : ta σ H fun x H1 => tb σ H1 fun y H2 => r [x, y] H2 Q) : tCB r (tCons ta (tCons tb tNil)) σ H Q := h
theorem rd_op {r : R2} (h : ta σ H fun x H1 => tb σ H1 fun y H2 => r x y H2 Q) : tOp r ta tb σ H Q := h
theorem rd_for {wi : TI} {g : TG} (h : wi σ H fun J H1 => ∃ W : Nat → Nat → L2.St → Hp → Prop, (∃ m, W 0 m σ H1) ∧ ∀ i m σ H, W i m σ H →
  (J.stop i H ∧ D.nx σ H) ∨ (J.go i H ∧ ∃ N : L2.St → Hp → Prop, (∀ σ' H', N σ' H' → ∃ m', m' < m ∧ W (i + 1) m' σ' H') ∧ ∀ x H', J.yld i H x H' → g x σ H' fun σ2 H2 => t { D with nx := N, ct := N, bk := D.nx } σ2 H2)) : tFor wi g t D σ H := h
theorem rd_aug {ti : TIp} (hx : σ[i]? = some (some v)) (h : te σ H fun y H1 => ti v y H1 fun z H2 => D.nx (σ.set i (some z)) H2) : tAug i te ti D σ H := ⟨v, hx, h⟩
end
theorem at0 {x : V} {xs : List V} : atI (x :: xs) 0 = some x := atI_nat (j := 0) rfl
theorem at1 {x y : V} {xs : List V} : atI (x :: y :: xs) 1 = some y := atI_nat (j := 1) rfl
theorem at2 {x y z : V} {xs : List V} : atI (x :: y :: z :: xs) 2 = some z := atI_nat (j := 2) rfl
theorem cut1 (x : V) (vs : List V) : cutV (x :: vs) (some 1) none = vs := by
  unfold cutV HT.sIx
  have h1 : (1 : Int).toNat = 1 := rfl
  simp
end K65
namespace K65
open PySem PySem.Spec PyProof.Rows L2
section
variable {P : Program} {w : World} {K : PySem.W.Frag} {mg : Str → Option Value} {base : Heap} {CX : CXT} {k : Nat} {sp : Sp}
theorem sc_is_variable : FnScope ["term"] ["term"] (defScope s_is_variable) := ⟨rfl, rfl, rfl, by decide +kernel, rfl, by decide +kernel, by decide +kernel⟩
theorem b_is_variable (kV doc pm : Value) (an : Option Addr) (cdv ct : Value) (us : List Value) (h : us.length = (["term"] : List Str).length) : bindArgs (PySem.W.fnOf "is_variable" "is_variable" (defArgs s_is_variable) (defBody s_is_variable) (defScope s_is_variable) .none kV doc pm an cdv ct) ⟨us, []⟩ = pure ((["term"] : List Str).zip us) := match us, h with | [_], _ => rfl
theorem k_is_variable (T : TopF K mg) (len : ∀ vs H Q E, sp vs H Q E → vs.length = 1)
    (hbody : ∀ (cdv : Value) (A : Around) (outer : List Env) (s : Shared) (H : Hp) (vs : List V) (Q : VK) (E : XK), Room k (A.deeper (envOfC "is_variable" (defScope s_is_variable) s.heap.objs.size (He.ga K "is_variable") cdv)) → sp vs H Q E →
      ∃ t, PSs (cxOf CX0 P w K mg base ["term"] "is_variable" (defScope s_is_variable) (He.ga K "is_variable") cdv A outer s H E).nox (defBody s_is_variable) t ∧ t { nx := fun _ H' => Q .non H', rt := Q } (start ["term"] vs) H) : Cal P w K mg base CX0 (k + 1) "is_variable" ["term"] sp := Cal.mk0 T.m_is_variable T.f_is_variable b_is_variable sc_is_variable len hbody
theorem n_is_variable (T : TopF K mg) (no : ∀ vs H Q E, ¬ sp vs H Q E) : Cal P w K mg base CX k "is_variable" ["term"] sp := Cal.none T.m_is_variable T.f_is_variable b_is_variable no
theorem sc_size : FnScope ["term", "total", "argument"] ["term"] (defScope s_size) := ⟨rfl, rfl, rfl, by decide +kernel, rfl, by decide +kernel, by decide +kernel⟩
theorem b_size (kV doc pm : Value) (an : Option Addr) (cdv ct : Value) (us : List Value) (h : us.length = (["term"] : List Str).length) : bindArgs (PySem.W.fnOf "size" "size" (defArgs s_size) (defBody s_size) (defScope s_size) .none kV doc pm an cdv ct) ⟨us, []⟩ = pure ((["term"] : List Str).zip us) := match us, h with | [_], _ => rfl
theorem k_size (T : TopF K mg) (len : ∀ vs H Q E, sp vs H Q E → vs.length = 1)
    (hbody : ∀ (cdv : Value) (A : Around) (outer : List Env) (s : Shared) (H : Hp) (vs : List V) (Q : VK) (E : XK), Room k (A.deeper (envOfC "size" (defScope s_size) s.heap.objs.size (He.ga K "size") cdv)) → sp vs H Q E →
      ∃ t, PSs (cxOf CX0 P w K mg base ["term", "total", "argument"] "size" (defScope s_size) (He.ga K "size") cdv A outer s H E).nox (defBody s_size) t ∧ t { nx := fun _ H' => Q .non H', rt := Q } (start ["term", "total", "argument"] vs) H) : Cal P w K mg base CX0 (k + 1) "size" ["term"] sp := Cal.mk0 T.m_size T.f_size b_size sc_size len hbody
theorem n_size (T : TopF K mg) (no : ∀ vs H Q E, ¬ sp vs H Q E) : Cal P w K mg base CX k "size" ["term"] sp := Cal.none T.m_size T.f_size b_size no
theorem sc_depth : FnScope ["term", "deepest", "argument"] ["term"] (defScope s_depth) := ⟨rfl, rfl, rfl, by decide +kernel, rfl, by decide +kernel, by decide +kernel⟩
theorem b_depth (kV doc pm : Value) (an : Option Addr) (cdv ct : Value) (us : List Value) (h : us.length = (["term"] : List Str).length) : bindArgs (PySem.W.fnOf "depth" "depth" (defArgs s_depth) (defBody s_depth) (defScope s_depth) .none kV doc pm an cdv ct) ⟨us, []⟩ = pure ((["term"] : List Str).zip us) := match us, h with | [_], _ => rfl
theorem k_depth (T : TopF K mg) (len : ∀ vs H Q E, sp vs H Q E → vs.length = 1)
    (hbody : ∀ (cdv : Value) (A : Around) (outer : List Env) (s : Shared) (H : Hp) (vs : List V) (Q : VK) (E : XK), Room k (A.deeper (envOfC "depth" (defScope s_depth) s.heap.objs.size (He.ga K "depth") cdv)) → sp vs H Q E →
      ∃ t, PSs (cxOf CX0 P w K mg base ["term", "deepest", "argument"] "depth" (defScope s_depth) (He.ga K "depth") cdv A outer s H E).nox (defBody s_depth) t ∧ t { nx := fun _ H' => Q .non H', rt := Q } (start ["term", "deepest", "argument"] vs) H) : Cal P w K mg base CX0 (k + 1) "depth" ["term"] sp := Cal.mk0 T.m_depth T.f_depth b_depth sc_depth len hbody
theorem n_depth (T : TopF K mg) (no : ∀ vs H Q E, ¬ sp vs H Q E) : Cal P w K mg base CX k "depth" ["term"] sp := Cal.none T.m_depth T.f_depth b_depth no
theorem sc_symbols : FnScope ["term", "found", "argument"] ["term"] (defScope s_symbols) := ⟨rfl, rfl, rfl, by decide +kernel, rfl, by decide +kernel, by decide +kernel⟩
theorem b_symbols (kV doc pm : Value) (an : Option Addr) (cdv ct : Value) (us : List Value) (h : us.length = (["term"] : List Str).length) : bindArgs (PySem.W.fnOf "symbols" "symbols" (defArgs s_symbols) (defBody s_symbols) (defScope s_symbols) .none kV doc pm an cdv ct) ⟨us, []⟩ = pure ((["term"] : List Str).zip us) := match us, h with | [_], _ => rfl
theorem k_symbols (T : TopF K mg) (len : ∀ vs H Q E, sp vs H Q E → vs.length = 1)
    (hbody : ∀ (cdv : Value) (A : Around) (outer : List Env) (s : Shared) (H : Hp) (vs : List V) (Q : VK) (E : XK), Room k (A.deeper (envOfC "symbols" (defScope s_symbols) s.heap.objs.size (He.ga K "symbols") cdv)) → sp vs H Q E →
      ∃ t, PSs (cxOf CX0 P w K mg base ["term", "found", "argument"] "symbols" (defScope s_symbols) (He.ga K "symbols") cdv A outer s H E).nox (defBody s_symbols) t ∧ t { nx := fun _ H' => Q .non H', rt := Q } (start ["term", "found", "argument"] vs) H) : Cal P w K mg base CX0 (k + 1) "symbols" ["term"] sp := Cal.mk0 T.m_symbols T.f_symbols b_symbols sc_symbols len hbody
theorem n_symbols (T : TopF K mg) (no : ∀ vs H Q E, ¬ sp vs H Q E) : Cal P w K mg base CX k "symbols" ["term"] sp := Cal.none T.m_symbols T.f_symbols b_symbols no
theorem sc_variables : FnScope ["term", "found", "symbol"] ["term"] (defScope s_variables) := ⟨rfl, rfl, rfl, by decide +kernel, rfl, by decide +kernel, by decide +kernel⟩
theorem b_variables (kV doc pm : Value) (an : Option Addr) (cdv ct : Value) (us : List Value) (h : us.length = (["term"] : List Str).length) : bindArgs (PySem.W.fnOf "variables" "variables" (defArgs s_variables) (defBody s_variables) (defScope s_variables) .none kV doc pm an cdv ct) ⟨us, []⟩ = pure ((["term"] : List Str).zip us) := match us, h with | [_], _ => rfl
theorem k_variables (T : TopF K mg) (len : ∀ vs H Q E, sp vs H Q E → vs.length = 1)
    (hbody : ∀ (cdv : Value) (A : Around) (outer : List Env) (s : Shared) (H : Hp) (vs : List V) (Q : VK) (E : XK), Room k (A.deeper (envOfC "variables" (defScope s_variables) s.heap.objs.size (He.ga K "variables") cdv)) → sp vs H Q E →
      ∃ t, PSs (cxOf CX0 P w K mg base ["term", "found", "symbol"] "variables" (defScope s_variables) (He.ga K "variables") cdv A outer s H E).nox (defBody s_variables) t ∧ t { nx := fun _ H' => Q .non H', rt := Q } (start ["term", "found", "symbol"] vs) H) : Cal P w K mg base CX0 (k + 1) "variables" ["term"] sp := Cal.mk0 T.m_variables T.f_variables b_variables sc_variables len hbody
theorem n_variables (T : TopF K mg) (no : ∀ vs H Q E, ¬ sp vs H Q E) : Cal P w K mg base CX k "variables" ["term"] sp := Cal.none T.m_variables T.f_variables b_variables no
theorem sc_has_argument : FnScope ["term", "k"] ["term", "k"] (defScope s_has_argument) := ⟨rfl, rfl, rfl, by decide +kernel, rfl, by decide +kernel, by decide +kernel⟩
theorem b_has_argument (kV doc pm : Value) (an : Option Addr) (cdv ct : Value) (us : List Value) (h : us.length = (["term", "k"] : List Str).length) : bindArgs (PySem.W.fnOf "has_argument" "has_argument" (defArgs s_has_argument) (defBody s_has_argument) (defScope s_has_argument) .none kV doc pm an cdv ct) ⟨us, []⟩ = pure ((["term", "k"] : List Str).zip us) := match us, h with | [_, _], _ => rfl
theorem k_has_argument (T : TopF K mg) (len : ∀ vs H Q E, sp vs H Q E → vs.length = 2)
    (hbody : ∀ (cdv : Value) (A : Around) (outer : List Env) (s : Shared) (H : Hp) (vs : List V) (Q : VK) (E : XK), Room k (A.deeper (envOfC "has_argument" (defScope s_has_argument) s.heap.objs.size (He.ga K "has_argument") cdv)) → sp vs H Q E →
      ∃ t, PSs (cxOf CX0 P w K mg base ["term", "k"] "has_argument" (defScope s_has_argument) (He.ga K "has_argument") cdv A outer s H E).nox (defBody s_has_argument) t ∧ t { nx := fun _ H' => Q .non H', rt := Q } (start ["term", "k"] vs) H) : Cal P w K mg base CX0 (k + 1) "has_argument" ["term", "k"] sp := Cal.mk0 T.m_has_argument T.f_has_argument b_has_argument sc_has_argument len hbody
theorem n_has_argument (T : TopF K mg) (no : ∀ vs H Q E, ¬ sp vs H Q E) : Cal P w K mg base CX k "has_argument" ["term", "k"] sp := Cal.none T.m_has_argument T.f_has_argument b_has_argument no
theorem sc_subterm : FnScope ["term", "position", "k"] ["term", "position"] (defScope s_subterm) := ⟨rfl, rfl, rfl, by decide +kernel, rfl, by decide +kernel, by decide +kernel⟩
theorem b_subterm (kV doc pm : Value) (an : Option Addr) (cdv ct : Value) (us : List Value) (h : us.length = (["term", "position"] : List Str).length) : bindArgs (PySem.W.fnOf "subterm" "subterm" (defArgs s_subterm) (defBody s_subterm) (defScope s_subterm) .none kV doc pm an cdv ct) ⟨us, []⟩ = pure ((["term", "position"] : List Str).zip us) := match us, h with | [_, _], _ => rfl
theorem k_subterm (T : TopF K mg) (len : ∀ vs H Q E, sp vs H Q E → vs.length = 2)
    (hbody : ∀ (cdv : Value) (A : Around) (outer : List Env) (s : Shared) (H : Hp) (vs : List V) (Q : VK) (E : XK), Room k (A.deeper (envOfC "subterm" (defScope s_subterm) s.heap.objs.size (He.ga K "subterm") cdv)) → sp vs H Q E →
      ∃ t, PSs (cxOf CX0 P w K mg base ["term", "position", "k"] "subterm" (defScope s_subterm) (He.ga K "subterm") cdv A outer s H E).nox (defBody s_subterm) t ∧ t { nx := fun _ H' => Q .non H', rt := Q } (start ["term", "position", "k"] vs) H) : Cal P w K mg base CX0 (k + 1) "subterm" ["term", "position"] sp := Cal.mk0 T.m_subterm T.f_subterm b_subterm sc_subterm len hbody
theorem kx_subterm (T : TopF K mg) (len : ∀ vs H Q E, sp vs H Q E → vs.length = 2)
    (hbody : ∀ (cdv : Value) (A : Around) (outer : List Env) (s : Shared) (H : Hp) (vs : List V) (Q : VK) (E : XK), Room k (A.deeper (envOfC "subterm" (defScope s_subterm) s.heap.objs.size (He.ga K "subterm") cdv)) → sp vs H Q E →
      ∃ t, PSs (cxOf CX P w K mg base ["term", "position", "k"] "subterm" (defScope s_subterm) (He.ga K "subterm") cdv A outer s H E) (defBody s_subterm) t ∧ t { nx := fun _ H' => Q .non H', rt := Q } (start ["term", "position", "k"] vs) H) : Cal P w K mg base CX (k + 1) "subterm" ["term", "position"] sp := Cal.mk T.m_subterm T.f_subterm b_subterm sc_subterm len hbody
theorem n_subterm (T : TopF K mg) (no : ∀ vs H Q E, ¬ sp vs H Q E) : Cal P w K mg base CX k "subterm" ["term", "position"] sp := Cal.none T.m_subterm T.f_subterm b_subterm no
theorem sc_replace : FnScope ["term", "position", "new", "k", "inner"] ["term", "position", "new"] (defScope s_replace) := ⟨rfl, rfl, rfl, by decide +kernel, rfl, by decide +kernel, by decide +kernel⟩
theorem b_replace (kV doc pm : Value) (an : Option Addr) (cdv ct : Value) (us : List Value) (h : us.length = (["term", "position", "new"] : List Str).length) : bindArgs (PySem.W.fnOf "replace" "replace" (defArgs s_replace) (defBody s_replace) (defScope s_replace) .none kV doc pm an cdv ct) ⟨us, []⟩ = pure ((["term", "position", "new"] : List Str).zip us) := match us, h with | [_, _, _], _ => rfl
theorem k_replace (T : TopF K mg) (len : ∀ vs H Q E, sp vs H Q E → vs.length = 3)
    (hbody : ∀ (cdv : Value) (A : Around) (outer : List Env) (s : Shared) (H : Hp) (vs : List V) (Q : VK) (E : XK), Room k (A.deeper (envOfC "replace" (defScope s_replace) s.heap.objs.size (He.ga K "replace") cdv)) → sp vs H Q E →
      ∃ t, PSs (cxOf CX0 P w K mg base ["term", "position", "new", "k", "inner"] "replace" (defScope s_replace) (He.ga K "replace") cdv A outer s H E).nox (defBody s_replace) t ∧ t { nx := fun _ H' => Q .non H', rt := Q } (start ["term", "position", "new", "k", "inner"] vs) H) : Cal P w K mg base CX0 (k + 1) "replace" ["term", "position", "new"] sp := Cal.mk0 T.m_replace T.f_replace b_replace sc_replace len hbody
theorem n_replace (T : TopF K mg) (no : ∀ vs H Q E, ¬ sp vs H Q E) : Cal P w K mg base CX k "replace" ["term", "position", "new"] sp := Cal.none T.m_replace T.f_replace b_replace no
theorem sc_substitute : FnScope ["term", "substitution", "result", "argument"] ["term", "substitution"] (defScope s_substitute) := ⟨rfl, rfl, rfl, by decide +kernel, rfl, by decide +kernel, by decide +kernel⟩
theorem b_substitute (kV doc pm : Value) (an : Option Addr) (cdv ct : Value) (us : List Value) (h : us.length = (["term", "substitution"] : List Str).length) : bindArgs (PySem.W.fnOf "substitute" "substitute" (defArgs s_substitute) (defBody s_substitute) (defScope s_substitute) .none kV doc pm an cdv ct) ⟨us, []⟩ = pure ((["term", "substitution"] : List Str).zip us) := match us, h with | [_, _], _ => rfl
theorem k_substitute (T : TopF K mg) (len : ∀ vs H Q E, sp vs H Q E → vs.length = 2)
    (hbody : ∀ (cdv : Value) (A : Around) (outer : List Env) (s : Shared) (H : Hp) (vs : List V) (Q : VK) (E : XK), Room k (A.deeper (envOfC "substitute" (defScope s_substitute) s.heap.objs.size (He.ga K "substitute") cdv)) → sp vs H Q E →
      ∃ t, PSs (cxOf CX0 P w K mg base ["term", "substitution", "result", "argument"] "substitute" (defScope s_substitute) (He.ga K "substitute") cdv A outer s H E).nox (defBody s_substitute) t ∧ t { nx := fun _ H' => Q .non H', rt := Q } (start ["term", "substitution", "result", "argument"] vs) H) : Cal P w K mg base CX0 (k + 1) "substitute" ["term", "substitution"] sp := Cal.mk0 T.m_substitute T.f_substitute b_substitute sc_substitute len hbody
theorem n_substitute (T : TopF K mg) (no : ∀ vs H Q E, ¬ sp vs H Q E) : Cal P w K mg base CX k "substitute" ["term", "substitution"] sp := Cal.none T.m_substitute T.f_substitute b_substitute no
theorem sc_is_wide : FnScope ["term"] ["term"] (defScope s_is_wide) := ⟨rfl, rfl, rfl, by decide +kernel, rfl, by decide +kernel, by decide +kernel⟩
theorem b_is_wide (kV doc pm : Value) (an : Option Addr) (cdv ct : Value) (us : List Value) (h : us.length = (["term"] : List Str).length) : bindArgs (PySem.W.fnOf "is_wide" "is_wide" (defArgs s_is_wide) (defBody s_is_wide) (defScope s_is_wide) .none kV doc pm an cdv ct) ⟨us, []⟩ = pure ((["term"] : List Str).zip us) := match us, h with | [_], _ => rfl
theorem k_is_wide (T : TopF K mg) (len : ∀ vs H Q E, sp vs H Q E → vs.length = 1)
    (hbody : ∀ (cdv : Value) (A : Around) (outer : List Env) (s : Shared) (H : Hp) (vs : List V) (Q : VK) (E : XK), Room k (A.deeper (envOfC "is_wide" (defScope s_is_wide) s.heap.objs.size (He.ga K "is_wide") cdv)) → sp vs H Q E →
      ∃ t, PSs (cxOf CX0 P w K mg base ["term"] "is_wide" (defScope s_is_wide) (He.ga K "is_wide") cdv A outer s H E).nox (defBody s_is_wide) t ∧ t { nx := fun _ H' => Q .non H', rt := Q } (start ["term"] vs) H) : Cal P w K mg base CX0 (k + 1) "is_wide" ["term"] sp := Cal.mk0 T.m_is_wide T.f_is_wide b_is_wide sc_is_wide len hbody
theorem n_is_wide (T : TopF K mg) (no : ∀ vs H Q E, ¬ sp vs H Q E) : Cal P w K mg base CX k "is_wide" ["term"] sp := Cal.none T.m_is_wide T.f_is_wide b_is_wide no
theorem sc_named_equation : FnScope ["given", "stages", "source", "kind", "index"] ["given", "stages", "source"] (defScope s_named_equation) := ⟨rfl, rfl, rfl, by decide +kernel, rfl, by decide +kernel, by decide +kernel⟩
theorem b_named_equation (kV doc pm : Value) (an : Option Addr) (cdv ct : Value) (us : List Value) (h : us.length = (["given", "stages", "source"] : List Str).length) : bindArgs (PySem.W.fnOf "named_equation" "named_equation" (defArgs s_named_equation) (defBody s_named_equation) (defScope s_named_equation) .none kV doc pm an cdv ct) ⟨us, []⟩ = pure ((["given", "stages", "source"] : List Str).zip us) := match us, h with | [_, _, _], _ => rfl
theorem k_named_equation (T : TopF K mg) (len : ∀ vs H Q E, sp vs H Q E → vs.length = 3)
    (hbody : ∀ (cdv : Value) (A : Around) (outer : List Env) (s : Shared) (H : Hp) (vs : List V) (Q : VK) (E : XK), Room k (A.deeper (envOfC "named_equation" (defScope s_named_equation) s.heap.objs.size (He.ga K "named_equation") cdv)) → sp vs H Q E →
      ∃ t, PSs (cxOf CX0 P w K mg base ["given", "stages", "source", "kind", "index"] "named_equation" (defScope s_named_equation) (He.ga K "named_equation") cdv A outer s H E).nox (defBody s_named_equation) t ∧ t { nx := fun _ H' => Q .non H', rt := Q } (start ["given", "stages", "source", "kind", "index"] vs) H) : Cal P w K mg base CX0 (k + 1) "named_equation" ["given", "stages", "source"] sp := Cal.mk0 T.m_named_equation T.f_named_equation b_named_equation sc_named_equation len hbody
theorem n_named_equation (T : TopF K mg) (no : ∀ vs H Q E, ¬ sp vs H Q E) : Cal P w K mg base CX k "named_equation" ["given", "stages", "source"] sp := Cal.none T.m_named_equation T.f_named_equation b_named_equation no
theorem sc_binds_exactly : FnScope ["substitution", "left", "right"] ["substitution", "left", "right"] (defScope s_binds_exactly) := ⟨rfl, rfl, rfl, by decide +kernel, rfl, by decide +kernel, by decide +kernel⟩
theorem b_binds_exactly (kV doc pm : Value) (an : Option Addr) (cdv ct : Value) (us : List Value) (h : us.length = (["substitution", "left", "right"] : List Str).length) : bindArgs (PySem.W.fnOf "binds_exactly" "binds_exactly" (defArgs s_binds_exactly) (defBody s_binds_exactly) (defScope s_binds_exactly) .none kV doc pm an cdv ct) ⟨us, []⟩ = pure ((["substitution", "left", "right"] : List Str).zip us) := match us, h with | [_, _, _], _ => rfl
theorem k_binds_exactly (T : TopF K mg) (len : ∀ vs H Q E, sp vs H Q E → vs.length = 3)
    (hbody : ∀ (cdv : Value) (A : Around) (outer : List Env) (s : Shared) (H : Hp) (vs : List V) (Q : VK) (E : XK), Room k (A.deeper (envOfC "binds_exactly" (defScope s_binds_exactly) s.heap.objs.size (He.ga K "binds_exactly") cdv)) → sp vs H Q E →
      ∃ t, PSs (cxOf CX0 P w K mg base ["substitution", "left", "right"] "binds_exactly" (defScope s_binds_exactly) (He.ga K "binds_exactly") cdv A outer s H E).nox (defBody s_binds_exactly) t ∧ t { nx := fun _ H' => Q .non H', rt := Q } (start ["substitution", "left", "right"] vs) H) : Cal P w K mg base CX0 (k + 1) "binds_exactly" ["substitution", "left", "right"] sp := Cal.mk0 T.m_binds_exactly T.f_binds_exactly b_binds_exactly sc_binds_exactly len hbody
theorem n_binds_exactly (T : TopF K mg) (no : ∀ vs H Q E, ¬ sp vs H Q E) : Cal P w K mg base CX k "binds_exactly" ["substitution", "left", "right"] sp := Cal.none T.m_binds_exactly T.f_binds_exactly b_binds_exactly no
theorem sc_apply_step : FnScope ["given", "stages", "term", "step", "source", "is_forward", "position", "substitution", "equation", "old", "new", "found", "result"] ["given", "stages", "term", "step"] (defScope s_apply_step) := ⟨rfl, rfl, rfl, by decide +kernel, rfl, by decide +kernel, by decide +kernel⟩
theorem b_apply_step (kV doc pm : Value) (an : Option Addr) (cdv ct : Value) (us : List Value) (h : us.length = (["given", "stages", "term", "step"] : List Str).length) : bindArgs (PySem.W.fnOf "apply_step" "apply_step" (defArgs s_apply_step) (defBody s_apply_step) (defScope s_apply_step) .none kV doc pm an cdv ct) ⟨us, []⟩ = pure ((["given", "stages", "term", "step"] : List Str).zip us) := match us, h with | [_, _, _, _], _ => rfl
theorem k_apply_step (T : TopF K mg) (len : ∀ vs H Q E, sp vs H Q E → vs.length = 4)
    (hbody : ∀ (cdv : Value) (A : Around) (outer : List Env) (s : Shared) (H : Hp) (vs : List V) (Q : VK) (E : XK), Room k (A.deeper (envOfC "apply_step" (defScope s_apply_step) s.heap.objs.size (He.ga K "apply_step") cdv)) → sp vs H Q E →
      ∃ t, PSs (cxOf CX0 P w K mg base ["given", "stages", "term", "step", "source", "is_forward", "position", "substitution", "equation", "old", "new", "found", "result"] "apply_step" (defScope s_apply_step) (He.ga K "apply_step") cdv A outer s H E).nox (defBody s_apply_step) t ∧ t { nx := fun _ H' => Q .non H', rt := Q } (start ["given", "stages", "term", "step", "source", "is_forward", "position", "substitution", "equation", "old", "new", "found", "result"] vs) H) : Cal P w K mg base CX0 (k + 1) "apply_step" ["given", "stages", "term", "step"] sp := Cal.mk0 T.m_apply_step T.f_apply_step b_apply_step sc_apply_step len hbody
theorem kx_apply_step (T : TopF K mg) (len : ∀ vs H Q E, sp vs H Q E → vs.length = 4)
    (hbody : ∀ (cdv : Value) (A : Around) (outer : List Env) (s : Shared) (H : Hp) (vs : List V) (Q : VK) (E : XK), Room k (A.deeper (envOfC "apply_step" (defScope s_apply_step) s.heap.objs.size (He.ga K "apply_step") cdv)) → sp vs H Q E →
      ∃ t, PSs (cxOf CX P w K mg base ["given", "stages", "term", "step", "source", "is_forward", "position", "substitution", "equation", "old", "new", "found", "result"] "apply_step" (defScope s_apply_step) (He.ga K "apply_step") cdv A outer s H E) (defBody s_apply_step) t ∧ t { nx := fun _ H' => Q .non H', rt := Q } (start ["given", "stages", "term", "step", "source", "is_forward", "position", "substitution", "equation", "old", "new", "found", "result"] vs) H) : Cal P w K mg base CX (k + 1) "apply_step" ["given", "stages", "term", "step"] sp := Cal.mk T.m_apply_step T.f_apply_step b_apply_step sc_apply_step len hbody
theorem n_apply_step (T : TopF K mg) (no : ∀ vs H Q E, ¬ sp vs H Q E) : Cal P w K mg base CX k "apply_step" ["given", "stages", "term", "step"] sp := Cal.none T.m_apply_step T.f_apply_step b_apply_step no
theorem sc_visited : FnScope ["given", "stages", "term", "steps", "terms", "number", "step"] ["given", "stages", "term", "steps"] (defScope s_visited) := ⟨rfl, rfl, rfl, by decide +kernel, rfl, by decide +kernel, by decide +kernel⟩
theorem b_visited (kV doc pm : Value) (an : Option Addr) (cdv ct : Value) (us : List Value) (h : us.length = (["given", "stages", "term", "steps"] : List Str).length) : bindArgs (PySem.W.fnOf "visited" "visited" (defArgs s_visited) (defBody s_visited) (defScope s_visited) .none kV doc pm an cdv ct) ⟨us, []⟩ = pure ((["given", "stages", "term", "steps"] : List Str).zip us) := match us, h with | [_, _, _, _], _ => rfl
theorem k_visited (T : TopF K mg) (len : ∀ vs H Q E, sp vs H Q E → vs.length = 4)
    (hbody : ∀ (cdv : Value) (A : Around) (outer : List Env) (s : Shared) (H : Hp) (vs : List V) (Q : VK) (E : XK), Room k (A.deeper (envOfC "visited" (defScope s_visited) s.heap.objs.size (He.ga K "visited") cdv)) → sp vs H Q E →
      ∃ t, PSs (cxOf CX0 P w K mg base ["given", "stages", "term", "steps", "terms", "number", "step"] "visited" (defScope s_visited) (He.ga K "visited") cdv A outer s H E).nox (defBody s_visited) t ∧ t { nx := fun _ H' => Q .non H', rt := Q } (start ["given", "stages", "term", "steps", "terms", "number", "step"] vs) H) : Cal P w K mg base CX0 (k + 1) "visited" ["given", "stages", "term", "steps"] sp := Cal.mk0 T.m_visited T.f_visited b_visited sc_visited len hbody
theorem kx_visited (T : TopF K mg) (len : ∀ vs H Q E, sp vs H Q E → vs.length = 4)
    (hbody : ∀ (cdv : Value) (A : Around) (outer : List Env) (s : Shared) (H : Hp) (vs : List V) (Q : VK) (E : XK), Room k (A.deeper (envOfC "visited" (defScope s_visited) s.heap.objs.size (He.ga K "visited") cdv)) → sp vs H Q E →
      ∃ t, PSs (cxOf CX P w K mg base ["given", "stages", "term", "steps", "terms", "number", "step"] "visited" (defScope s_visited) (He.ga K "visited") cdv A outer s H E) (defBody s_visited) t ∧ t { nx := fun _ H' => Q .non H', rt := Q } (start ["given", "stages", "term", "steps", "terms", "number", "step"] vs) H) : Cal P w K mg base CX (k + 1) "visited" ["given", "stages", "term", "steps"] sp := Cal.mk T.m_visited T.f_visited b_visited sc_visited len hbody
theorem n_visited (T : TopF K mg) (no : ∀ vs H Q E, ¬ sp vs H Q E) : Cal P w K mg base CX k "visited" ["given", "stages", "term", "steps"] sp := Cal.none T.m_visited T.f_visited b_visited no
theorem sc_leads : FnScope ["given", "stages", "start", "end", "steps", "terms"] ["given", "stages", "start", "end", "steps"] (defScope s_leads) := ⟨rfl, rfl, rfl, by decide +kernel, rfl, by decide +kernel, by decide +kernel⟩
theorem b_leads (kV doc pm : Value) (an : Option Addr) (cdv ct : Value) (us : List Value) (h : us.length = (["given", "stages", "start", "end", "steps"] : List Str).length) : bindArgs (PySem.W.fnOf "leads" "leads" (defArgs s_leads) (defBody s_leads) (defScope s_leads) .none kV doc pm an cdv ct) ⟨us, []⟩ = pure ((["given", "stages", "start", "end", "steps"] : List Str).zip us) := match us, h with | [_, _, _, _, _], _ => rfl
theorem k_leads (T : TopF K mg) (len : ∀ vs H Q E, sp vs H Q E → vs.length = 5)
    (hbody : ∀ (cdv : Value) (A : Around) (outer : List Env) (s : Shared) (H : Hp) (vs : List V) (Q : VK) (E : XK), Room k (A.deeper (envOfC "leads" (defScope s_leads) s.heap.objs.size (He.ga K "leads") cdv)) → sp vs H Q E →
      ∃ t, PSs (cxOf CX0 P w K mg base ["given", "stages", "start", "end", "steps", "terms"] "leads" (defScope s_leads) (He.ga K "leads") cdv A outer s H E).nox (defBody s_leads) t ∧ t { nx := fun _ H' => Q .non H', rt := Q } (start ["given", "stages", "start", "end", "steps", "terms"] vs) H) : Cal P w K mg base CX0 (k + 1) "leads" ["given", "stages", "start", "end", "steps"] sp := Cal.mk0 T.m_leads T.f_leads b_leads sc_leads len hbody
theorem n_leads (T : TopF K mg) (no : ∀ vs H Q E, ¬ sp vs H Q E) : Cal P w K mg base CX k "leads" ["given", "stages", "start", "end", "steps"] sp := Cal.none T.m_leads T.f_leads b_leads no
theorem sc_is_derivation : FnScope ["given", "left", "right", "stages", "earlier", "stage"] ["given", "left", "right", "stages"] (defScope s_is_derivation) := ⟨rfl, rfl, rfl, by decide +kernel, rfl, by decide +kernel, by decide +kernel⟩
theorem b_is_derivation (kV doc pm : Value) (an : Option Addr) (cdv ct : Value) (us : List Value) (h : us.length = (["given", "left", "right", "stages"] : List Str).length) : bindArgs (PySem.W.fnOf "is_derivation" "is_derivation" (defArgs s_is_derivation) (defBody s_is_derivation) (defScope s_is_derivation) .none kV doc pm an cdv ct) ⟨us, []⟩ = pure ((["given", "left", "right", "stages"] : List Str).zip us) := match us, h with | [_, _, _, _], _ => rfl
theorem k_is_derivation (T : TopF K mg) (len : ∀ vs H Q E, sp vs H Q E → vs.length = 4)
    (hbody : ∀ (cdv : Value) (A : Around) (outer : List Env) (s : Shared) (H : Hp) (vs : List V) (Q : VK) (E : XK), Room k (A.deeper (envOfC "is_derivation" (defScope s_is_derivation) s.heap.objs.size (He.ga K "is_derivation") cdv)) → sp vs H Q E →
      ∃ t, PSs (cxOf CX0 P w K mg base ["given", "left", "right", "stages", "earlier", "stage"] "is_derivation" (defScope s_is_derivation) (He.ga K "is_derivation") cdv A outer s H E).nox (defBody s_is_derivation) t ∧ t { nx := fun _ H' => Q .non H', rt := Q } (start ["given", "left", "right", "stages", "earlier", "stage"] vs) H) : Cal P w K mg base CX0 (k + 1) "is_derivation" ["given", "left", "right", "stages"] sp := Cal.mk0 T.m_is_derivation T.f_is_derivation b_is_derivation sc_is_derivation len hbody
theorem n_is_derivation (T : TopF K mg) (no : ∀ vs H Q E, ¬ sp vs H Q E) : Cal P w K mg base CX k "is_derivation" ["given", "left", "right", "stages"] sp := Cal.none T.m_is_derivation T.f_is_derivation b_is_derivation no
theorem sc_value : FnScope ["model", "term", "assignment", "arguments", "argument"] ["model", "term", "assignment"] (defScope s_value) := ⟨rfl, rfl, rfl, by decide +kernel, rfl, by decide +kernel, by decide +kernel⟩
theorem b_value (kV doc pm : Value) (an : Option Addr) (cdv ct : Value) (us : List Value) (h : us.length = (["model", "term", "assignment"] : List Str).length) : bindArgs (PySem.W.fnOf "value" "value" (defArgs s_value) (defBody s_value) (defScope s_value) .none kV doc pm an cdv ct) ⟨us, []⟩ = pure ((["model", "term", "assignment"] : List Str).zip us) := match us, h with | [_, _, _], _ => rfl
theorem k_value (T : TopF K mg) (len : ∀ vs H Q E, sp vs H Q E → vs.length = 3)
    (hbody : ∀ (cdv : Value) (A : Around) (outer : List Env) (s : Shared) (H : Hp) (vs : List V) (Q : VK) (E : XK), Room k (A.deeper (envOfC "value" (defScope s_value) s.heap.objs.size (He.ga K "value") cdv)) → sp vs H Q E →
      ∃ t, PSs (cxOf CX0 P w K mg base ["model", "term", "assignment", "arguments", "argument"] "value" (defScope s_value) (He.ga K "value") cdv A outer s H E).nox (defBody s_value) t ∧ t { nx := fun _ H' => Q .non H', rt := Q } (start ["model", "term", "assignment", "arguments", "argument"] vs) H) : Cal P w K mg base CX0 (k + 1) "value" ["model", "term", "assignment"] sp := Cal.mk0 T.m_value T.f_value b_value sc_value len hbody
theorem n_value (T : TopF K mg) (no : ∀ vs H Q E, ¬ sp vs H Q E) : Cal P w K mg base CX k "value" ["model", "term", "assignment"] sp := Cal.none T.m_value T.f_value b_value no
theorem sc_first_difference : FnScope ["model", "equation", "names", "assignment", "element", "extended", "found"] ["model", "equation", "names", "assignment"] (defScope s_first_difference) := ⟨rfl, rfl, rfl, by decide +kernel, rfl, by decide +kernel, by decide +kernel⟩
theorem b_first_difference (kV doc pm : Value) (an : Option Addr) (cdv ct : Value) (us : List Value) (h : us.length = (["model", "equation", "names", "assignment"] : List Str).length) : bindArgs (PySem.W.fnOf "first_difference" "first_difference" (defArgs s_first_difference) (defBody s_first_difference) (defScope s_first_difference) .none kV doc pm an cdv ct) ⟨us, []⟩ = pure ((["model", "equation", "names", "assignment"] : List Str).zip us) := match us, h with | [_, _, _, _], _ => rfl
theorem k_first_difference (T : TopF K mg) (len : ∀ vs H Q E, sp vs H Q E → vs.length = 4)
    (hbody : ∀ (cdv : Value) (A : Around) (outer : List Env) (s : Shared) (H : Hp) (vs : List V) (Q : VK) (E : XK), Room k (A.deeper (envOfC "first_difference" (defScope s_first_difference) s.heap.objs.size (He.ga K "first_difference") cdv)) → sp vs H Q E →
      ∃ t, PSs (cxOf CX0 P w K mg base ["model", "equation", "names", "assignment", "element", "extended", "found"] "first_difference" (defScope s_first_difference) (He.ga K "first_difference") cdv A outer s H E).nox (defBody s_first_difference) t ∧ t { nx := fun _ H' => Q .non H', rt := Q } (start ["model", "equation", "names", "assignment", "element", "extended", "found"] vs) H) : Cal P w K mg base CX0 (k + 1) "first_difference" ["model", "equation", "names", "assignment"] sp := Cal.mk0 T.m_first_difference T.f_first_difference b_first_difference sc_first_difference len hbody
theorem n_first_difference (T : TopF K mg) (no : ∀ vs H Q E, ¬ sp vs H Q E) : Cal P w K mg base CX k "first_difference" ["model", "equation", "names", "assignment"] sp := Cal.none T.m_first_difference T.f_first_difference b_first_difference no
theorem sc_equation_variables : FnScope ["left", "right", "names", "variable"] ["left", "right"] (defScope s_equation_variables) := ⟨rfl, rfl, rfl, by decide +kernel, rfl, by decide +kernel, by decide +kernel⟩
theorem b_equation_variables (kV doc pm : Value) (an : Option Addr) (cdv ct : Value) (us : List Value) (h : us.length = (["left", "right"] : List Str).length) : bindArgs (PySem.W.fnOf "equation_variables" "equation_variables" (defArgs s_equation_variables) (defBody s_equation_variables) (defScope s_equation_variables) .none kV doc pm an cdv ct) ⟨us, []⟩ = pure ((["left", "right"] : List Str).zip us) := match us, h with | [_, _], _ => rfl
theorem k_equation_variables (T : TopF K mg) (len : ∀ vs H Q E, sp vs H Q E → vs.length = 2)
    (hbody : ∀ (cdv : Value) (A : Around) (outer : List Env) (s : Shared) (H : Hp) (vs : List V) (Q : VK) (E : XK), Room k (A.deeper (envOfC "equation_variables" (defScope s_equation_variables) s.heap.objs.size (He.ga K "equation_variables") cdv)) → sp vs H Q E →
      ∃ t, PSs (cxOf CX0 P w K mg base ["left", "right", "names", "variable"] "equation_variables" (defScope s_equation_variables) (He.ga K "equation_variables") cdv A outer s H E).nox (defBody s_equation_variables) t ∧ t { nx := fun _ H' => Q .non H', rt := Q } (start ["left", "right", "names", "variable"] vs) H) : Cal P w K mg base CX0 (k + 1) "equation_variables" ["left", "right"] sp := Cal.mk0 T.m_equation_variables T.f_equation_variables b_equation_variables sc_equation_variables len hbody
theorem n_equation_variables (T : TopF K mg) (no : ∀ vs H Q E, ¬ sp vs H Q E) : Cal P w K mg base CX k "equation_variables" ["left", "right"] sp := Cal.none T.m_equation_variables T.f_equation_variables b_equation_variables no
theorem sc_counterexample : FnScope ["model", "left", "right"] ["model", "left", "right"] (defScope s_counterexample) := ⟨rfl, rfl, rfl, by decide +kernel, rfl, by decide +kernel, by decide +kernel⟩
theorem b_counterexample (kV doc pm : Value) (an : Option Addr) (cdv ct : Value) (us : List Value) (h : us.length = (["model", "left", "right"] : List Str).length) : bindArgs (PySem.W.fnOf "counterexample" "counterexample" (defArgs s_counterexample) (defBody s_counterexample) (defScope s_counterexample) .none kV doc pm an cdv ct) ⟨us, []⟩ = pure ((["model", "left", "right"] : List Str).zip us) := match us, h with | [_, _, _], _ => rfl
theorem k_counterexample (T : TopF K mg) (len : ∀ vs H Q E, sp vs H Q E → vs.length = 3)
    (hbody : ∀ (cdv : Value) (A : Around) (outer : List Env) (s : Shared) (H : Hp) (vs : List V) (Q : VK) (E : XK), Room k (A.deeper (envOfC "counterexample" (defScope s_counterexample) s.heap.objs.size (He.ga K "counterexample") cdv)) → sp vs H Q E →
      ∃ t, PSs (cxOf CX0 P w K mg base ["model", "left", "right"] "counterexample" (defScope s_counterexample) (He.ga K "counterexample") cdv A outer s H E).nox (defBody s_counterexample) t ∧ t { nx := fun _ H' => Q .non H', rt := Q } (start ["model", "left", "right"] vs) H) : Cal P w K mg base CX0 (k + 1) "counterexample" ["model", "left", "right"] sp := Cal.mk0 T.m_counterexample T.f_counterexample b_counterexample sc_counterexample len hbody
theorem n_counterexample (T : TopF K mg) (no : ∀ vs H Q E, ¬ sp vs H Q E) : Cal P w K mg base CX k "counterexample" ["model", "left", "right"] sp := Cal.none T.m_counterexample T.f_counterexample b_counterexample no
theorem sc_holds : FnScope ["model", "left", "right"] ["model", "left", "right"] (defScope s_holds) := ⟨rfl, rfl, rfl, by decide +kernel, rfl, by decide +kernel, by decide +kernel⟩
theorem b_holds (kV doc pm : Value) (an : Option Addr) (cdv ct : Value) (us : List Value) (h : us.length = (["model", "left", "right"] : List Str).length) : bindArgs (PySem.W.fnOf "holds" "holds" (defArgs s_holds) (defBody s_holds) (defScope s_holds) .none kV doc pm an cdv ct) ⟨us, []⟩ = pure ((["model", "left", "right"] : List Str).zip us) := match us, h with | [_, _, _], _ => rfl
theorem k_holds (T : TopF K mg) (len : ∀ vs H Q E, sp vs H Q E → vs.length = 3)
    (hbody : ∀ (cdv : Value) (A : Around) (outer : List Env) (s : Shared) (H : Hp) (vs : List V) (Q : VK) (E : XK), Room k (A.deeper (envOfC "holds" (defScope s_holds) s.heap.objs.size (He.ga K "holds") cdv)) → sp vs H Q E →
      ∃ t, PSs (cxOf CX0 P w K mg base ["model", "left", "right"] "holds" (defScope s_holds) (He.ga K "holds") cdv A outer s H E).nox (defBody s_holds) t ∧ t { nx := fun _ H' => Q .non H', rt := Q } (start ["model", "left", "right"] vs) H) : Cal P w K mg base CX0 (k + 1) "holds" ["model", "left", "right"] sp := Cal.mk0 T.m_holds T.f_holds b_holds sc_holds len hbody
theorem n_holds (T : TopF K mg) (no : ∀ vs H Q E, ¬ sp vs H Q E) : Cal P w K mg base CX k "holds" ["model", "left", "right"] sp := Cal.none T.m_holds T.f_holds b_holds no
theorem sc_L_mix : FnScope ["_law_cell", "_law_number_here"] ["_law_cell"] (defScope s_L_mix) := ⟨rfl, rfl, rfl, by decide +kernel, rfl, by decide +kernel, by decide +kernel⟩
theorem b_L_mix (kV doc pm : Value) (an : Option Addr) (cdv ct : Value) (us : List Value) (h : us.length = (["_law_cell"] : List Str).length) : bindArgs (PySem.W.fnOf "_law_mix" "_law_mix" (defArgs s_L_mix) (defBody s_L_mix) (defScope s_L_mix) .none kV doc pm an cdv ct) ⟨us, []⟩ = pure ((["_law_cell"] : List Str).zip us) := match us, h with | [_], _ => rfl
theorem k_L_mix (T : TopF K mg) (len : ∀ vs H Q E, sp vs H Q E → vs.length = 1)
    (hbody : ∀ (cdv : Value) (A : Around) (outer : List Env) (s : Shared) (H : Hp) (vs : List V) (Q : VK) (E : XK), Room k (A.deeper (envOfC "_law_mix" (defScope s_L_mix) s.heap.objs.size (He.ga K "_law_mix") cdv)) → sp vs H Q E →
      ∃ t, PSs (cxOf CX0 P w K mg base ["_law_cell", "_law_number_here"] "_law_mix" (defScope s_L_mix) (He.ga K "_law_mix") cdv A outer s H E).nox (defBody s_L_mix) t ∧ t { nx := fun _ H' => Q .non H', rt := Q } (start ["_law_cell", "_law_number_here"] vs) H) : Cal P w K mg base CX0 (k + 1) "_law_mix" ["_law_cell"] sp := Cal.mk0 T.m_L_mix T.f_L_mix b_L_mix sc_L_mix len hbody
theorem n_L_mix (T : TopF K mg) (no : ∀ vs H Q E, ¬ sp vs H Q E) : Cal P w K mg base CX k "_law_mix" ["_law_cell"] sp := Cal.none T.m_L_mix T.f_L_mix b_L_mix no
theorem sc_L_number : FnScope ["_law_cell", "_law_first"] ["_law_cell"] (defScope s_L_number) := ⟨rfl, rfl, rfl, by decide +kernel, rfl, by decide +kernel, by decide +kernel⟩
theorem b_L_number (kV doc pm : Value) (an : Option Addr) (cdv ct : Value) (us : List Value) (h : us.length = (["_law_cell"] : List Str).length) : bindArgs (PySem.W.fnOf "_law_number" "_law_number" (defArgs s_L_number) (defBody s_L_number) (defScope s_L_number) .none kV doc pm an cdv ct) ⟨us, []⟩ = pure ((["_law_cell"] : List Str).zip us) := match us, h with | [_], _ => rfl
theorem k_L_number (T : TopF K mg) (len : ∀ vs H Q E, sp vs H Q E → vs.length = 1)
    (hbody : ∀ (cdv : Value) (A : Around) (outer : List Env) (s : Shared) (H : Hp) (vs : List V) (Q : VK) (E : XK), Room k (A.deeper (envOfC "_law_number" (defScope s_L_number) s.heap.objs.size (He.ga K "_law_number") cdv)) → sp vs H Q E →
      ∃ t, PSs (cxOf CX0 P w K mg base ["_law_cell", "_law_first"] "_law_number" (defScope s_L_number) (He.ga K "_law_number") cdv A outer s H E).nox (defBody s_L_number) t ∧ t { nx := fun _ H' => Q .non H', rt := Q } (start ["_law_cell", "_law_first"] vs) H) : Cal P w K mg base CX0 (k + 1) "_law_number" ["_law_cell"] sp := Cal.mk0 T.m_L_number T.f_L_number b_L_number sc_L_number len hbody
theorem n_L_number (T : TopF K mg) (no : ∀ vs H Q E, ¬ sp vs H Q E) : Cal P w K mg base CX k "_law_number" ["_law_cell"] sp := Cal.none T.m_L_number T.f_L_number b_L_number no
theorem sc_L_state : FnScope ["_law_script"] ["_law_script"] (defScope s_L_state) := ⟨rfl, rfl, rfl, by decide +kernel, rfl, by decide +kernel, by decide +kernel⟩
theorem b_L_state (kV doc pm : Value) (an : Option Addr) (cdv ct : Value) (us : List Value) (h : us.length = (["_law_script"] : List Str).length) : bindArgs (PySem.W.fnOf "_law_state" "_law_state" (defArgs s_L_state) (defBody s_L_state) (defScope s_L_state) .none kV doc pm an cdv ct) ⟨us, []⟩ = pure ((["_law_script"] : List Str).zip us) := match us, h with | [_], _ => rfl
theorem k_L_state (T : TopF K mg) (len : ∀ vs H Q E, sp vs H Q E → vs.length = 1)
    (hbody : ∀ (cdv : Value) (A : Around) (outer : List Env) (s : Shared) (H : Hp) (vs : List V) (Q : VK) (E : XK), Room k (A.deeper (envOfC "_law_state" (defScope s_L_state) s.heap.objs.size (He.ga K "_law_state") cdv)) → sp vs H Q E →
      ∃ t, PSs (cxOf CX0 P w K mg base ["_law_script"] "_law_state" (defScope s_L_state) (He.ga K "_law_state") cdv A outer s H E).nox (defBody s_L_state) t ∧ t { nx := fun _ H' => Q .non H', rt := Q } (start ["_law_script"] vs) H) : Cal P w K mg base CX0 (k + 1) "_law_state" ["_law_script"] sp := Cal.mk0 T.m_L_state T.f_L_state b_L_state sc_L_state len hbody
theorem n_L_state (T : TopF K mg) (no : ∀ vs H Q E, ¬ sp vs H Q E) : Cal P w K mg base CX k "_law_state" ["_law_script"] sp := Cal.none T.m_L_state T.f_L_state b_L_state no
theorem sc_L_draw : FnScope ["_law_state_here", "_law_many", "_law_value_here"] ["_law_state_here", "_law_many"] (defScope s_L_draw) := ⟨rfl, rfl, rfl, by decide +kernel, rfl, by decide +kernel, by decide +kernel⟩
theorem b_L_draw (kV doc pm : Value) (an : Option Addr) (cdv ct : Value) (us : List Value) (h : us.length = (["_law_state_here", "_law_many"] : List Str).length) : bindArgs (PySem.W.fnOf "_law_draw" "_law_draw" (defArgs s_L_draw) (defBody s_L_draw) (defScope s_L_draw) .none kV doc pm an cdv ct) ⟨us, []⟩ = pure ((["_law_state_here", "_law_many"] : List Str).zip us) := match us, h with | [_, _], _ => rfl
theorem k_L_draw (T : TopF K mg) (len : ∀ vs H Q E, sp vs H Q E → vs.length = 2)
    (hbody : ∀ (cdv : Value) (A : Around) (outer : List Env) (s : Shared) (H : Hp) (vs : List V) (Q : VK) (E : XK), Room k (A.deeper (envOfC "_law_draw" (defScope s_L_draw) s.heap.objs.size (He.ga K "_law_draw") cdv)) → sp vs H Q E →
      ∃ t, PSs (cxOf CX0 P w K mg base ["_law_state_here", "_law_many", "_law_value_here"] "_law_draw" (defScope s_L_draw) (He.ga K "_law_draw") cdv A outer s H E).nox (defBody s_L_draw) t ∧ t { nx := fun _ H' => Q .non H', rt := Q } (start ["_law_state_here", "_law_many", "_law_value_here"] vs) H) : Cal P w K mg base CX0 (k + 1) "_law_draw" ["_law_state_here", "_law_many"] sp := Cal.mk0 T.m_L_draw T.f_L_draw b_L_draw sc_L_draw len hbody
theorem n_L_draw (T : TopF K mg) (no : ∀ vs H Q E, ¬ sp vs H Q E) : Cal P w K mg base CX k "_law_draw" ["_law_state_here", "_law_many"] sp := Cal.none T.m_L_draw T.f_L_draw b_L_draw no
theorem sc_L_word : FnScope ["_law_state_here", "_law_many", "_law_letters", "_law_k"] ["_law_state_here", "_law_many"] (defScope s_L_word) := ⟨rfl, rfl, rfl, by decide +kernel, rfl, by decide +kernel, by decide +kernel⟩
theorem b_L_word (kV doc pm : Value) (an : Option Addr) (cdv ct : Value) (us : List Value) (h : us.length = (["_law_state_here", "_law_many"] : List Str).length) : bindArgs (PySem.W.fnOf "_law_word" "_law_word" (defArgs s_L_word) (defBody s_L_word) (defScope s_L_word) .none kV doc pm an cdv ct) ⟨us, []⟩ = pure ((["_law_state_here", "_law_many"] : List Str).zip us) := match us, h with | [_, _], _ => rfl
theorem k_L_word (T : TopF K mg) (len : ∀ vs H Q E, sp vs H Q E → vs.length = 2)
    (hbody : ∀ (cdv : Value) (A : Around) (outer : List Env) (s : Shared) (H : Hp) (vs : List V) (Q : VK) (E : XK), Room k (A.deeper (envOfC "_law_word" (defScope s_L_word) s.heap.objs.size (He.ga K "_law_word") cdv)) → sp vs H Q E →
      ∃ t, PSs (cxOf CX0 P w K mg base ["_law_state_here", "_law_many", "_law_letters", "_law_k"] "_law_word" (defScope s_L_word) (He.ga K "_law_word") cdv A outer s H E).nox (defBody s_L_word) t ∧ t { nx := fun _ H' => Q .non H', rt := Q } (start ["_law_state_here", "_law_many", "_law_letters", "_law_k"] vs) H) : Cal P w K mg base CX0 (k + 1) "_law_word" ["_law_state_here", "_law_many"] sp := Cal.mk0 T.m_L_word T.f_L_word b_L_word sc_L_word len hbody
theorem n_L_word (T : TopF K mg) (no : ∀ vs H Q E, ¬ sp vs H Q E) : Cal P w K mg base CX k "_law_word" ["_law_state_here", "_law_many"] sp := Cal.none T.m_L_word T.f_L_word b_L_word no
theorem sc_L_names : FnScope ["_law_state_here", "_law_count", "_law_letters", "_law_before", "_law_behind", "_law_first", "_law_k"] ["_law_state_here", "_law_count"] (defScope s_L_names) := ⟨rfl, rfl, rfl, by decide +kernel, rfl, by decide +kernel, by decide +kernel⟩
theorem b_L_names (kV doc pm : Value) (an : Option Addr) (cdv ct : Value) (us : List Value) (h : us.length = (["_law_state_here", "_law_count"] : List Str).length) : bindArgs (PySem.W.fnOf "_law_names" "_law_names" (defArgs s_L_names) (defBody s_L_names) (defScope s_L_names) .none kV doc pm an cdv ct) ⟨us, []⟩ = pure ((["_law_state_here", "_law_count"] : List Str).zip us) := match us, h with | [_, _], _ => rfl
theorem k_L_names (T : TopF K mg) (len : ∀ vs H Q E, sp vs H Q E → vs.length = 2)
    (hbody : ∀ (cdv : Value) (A : Around) (outer : List Env) (s : Shared) (H : Hp) (vs : List V) (Q : VK) (E : XK), Room k (A.deeper (envOfC "_law_names" (defScope s_L_names) s.heap.objs.size (He.ga K "_law_names") cdv)) → sp vs H Q E →
      ∃ t, PSs (cxOf CX0 P w K mg base ["_law_state_here", "_law_count", "_law_letters", "_law_before", "_law_behind", "_law_first", "_law_k"] "_law_names" (defScope s_L_names) (He.ga K "_law_names") cdv A outer s H E).nox (defBody s_L_names) t ∧ t { nx := fun _ H' => Q .non H', rt := Q } (start ["_law_state_here", "_law_count", "_law_letters", "_law_before", "_law_behind", "_law_first", "_law_k"] vs) H) : Cal P w K mg base CX0 (k + 1) "_law_names" ["_law_state_here", "_law_count"] sp := Cal.mk0 T.m_L_names T.f_L_names b_L_names sc_L_names len hbody
theorem n_L_names (T : TopF K mg) (no : ∀ vs H Q E, ¬ sp vs H Q E) : Cal P w K mg base CX k "_law_names" ["_law_state_here", "_law_count"] sp := Cal.none T.m_L_names T.f_L_names b_L_names no
theorem sc_L_operations : FnScope ["_law_state_here", "_law_names_here", "_law_arities", "_law_k"] ["_law_state_here"] (defScope s_L_operations) := ⟨rfl, rfl, rfl, by decide +kernel, rfl, by decide +kernel, by decide +kernel⟩
theorem b_L_operations (kV doc pm : Value) (an : Option Addr) (cdv ct : Value) (us : List Value) (h : us.length = (["_law_state_here"] : List Str).length) : bindArgs (PySem.W.fnOf "_law_operations" "_law_operations" (defArgs s_L_operations) (defBody s_L_operations) (defScope s_L_operations) .none kV doc pm an cdv ct) ⟨us, []⟩ = pure ((["_law_state_here"] : List Str).zip us) := match us, h with | [_], _ => rfl
theorem k_L_operations (T : TopF K mg) (len : ∀ vs H Q E, sp vs H Q E → vs.length = 1)
    (hbody : ∀ (cdv : Value) (A : Around) (outer : List Env) (s : Shared) (H : Hp) (vs : List V) (Q : VK) (E : XK), Room k (A.deeper (envOfC "_law_operations" (defScope s_L_operations) s.heap.objs.size (He.ga K "_law_operations") cdv)) → sp vs H Q E →
      ∃ t, PSs (cxOf CX0 P w K mg base ["_law_state_here", "_law_names_here", "_law_arities", "_law_k"] "_law_operations" (defScope s_L_operations) (He.ga K "_law_operations") cdv A outer s H E).nox (defBody s_L_operations) t ∧ t { nx := fun _ H' => Q .non H', rt := Q } (start ["_law_state_here", "_law_names_here", "_law_arities", "_law_k"] vs) H) : Cal P w K mg base CX0 (k + 1) "_law_operations" ["_law_state_here"] sp := Cal.mk0 T.m_L_operations T.f_L_operations b_L_operations sc_L_operations len hbody
theorem n_L_operations (T : TopF K mg) (no : ∀ vs H Q E, ¬ sp vs H Q E) : Cal P w K mg base CX k "_law_operations" ["_law_state_here"] sp := Cal.none T.m_L_operations T.f_L_operations b_L_operations no
theorem sc_L_leaf : FnScope ["_law_state_here", "_law_operations_here", "_law_count"] ["_law_state_here", "_law_operations_here", "_law_count"] (defScope s_L_leaf) := ⟨rfl, rfl, rfl, by decide +kernel, rfl, by decide +kernel, by decide +kernel⟩
theorem b_L_leaf (kV doc pm : Value) (an : Option Addr) (cdv ct : Value) (us : List Value) (h : us.length = (["_law_state_here", "_law_operations_here", "_law_count"] : List Str).length) : bindArgs (PySem.W.fnOf "_law_leaf" "_law_leaf" (defArgs s_L_leaf) (defBody s_L_leaf) (defScope s_L_leaf) .none kV doc pm an cdv ct) ⟨us, []⟩ = pure ((["_law_state_here", "_law_operations_here", "_law_count"] : List Str).zip us) := match us, h with | [_, _, _], _ => rfl
theorem k_L_leaf (T : TopF K mg) (len : ∀ vs H Q E, sp vs H Q E → vs.length = 3)
    (hbody : ∀ (cdv : Value) (A : Around) (outer : List Env) (s : Shared) (H : Hp) (vs : List V) (Q : VK) (E : XK), Room k (A.deeper (envOfC "_law_leaf" (defScope s_L_leaf) s.heap.objs.size (He.ga K "_law_leaf") cdv)) → sp vs H Q E →
      ∃ t, PSs (cxOf CX0 P w K mg base ["_law_state_here", "_law_operations_here", "_law_count"] "_law_leaf" (defScope s_L_leaf) (He.ga K "_law_leaf") cdv A outer s H E).nox (defBody s_L_leaf) t ∧ t { nx := fun _ H' => Q .non H', rt := Q } (start ["_law_state_here", "_law_operations_here", "_law_count"] vs) H) : Cal P w K mg base CX0 (k + 1) "_law_leaf" ["_law_state_here", "_law_operations_here", "_law_count"] sp := Cal.mk0 T.m_L_leaf T.f_L_leaf b_L_leaf sc_L_leaf len hbody
theorem n_L_leaf (T : TopF K mg) (no : ∀ vs H Q E, ¬ sp vs H Q E) : Cal P w K mg base CX k "_law_leaf" ["_law_state_here", "_law_operations_here", "_law_count"] sp := Cal.none T.m_L_leaf T.f_L_leaf b_L_leaf no
theorem sc_L_term : FnScope ["_law_state_here", "_law_operations_here", "_law_count", "_law_height", "_law_name", "_law_arity", "_law_term_here", "_law_k"] ["_law_state_here", "_law_operations_here", "_law_count", "_law_height"] (defScope s_L_term) := ⟨rfl, rfl, rfl, by decide +kernel, rfl, by decide +kernel, by decide +kernel⟩
theorem b_L_term (kV doc pm : Value) (an : Option Addr) (cdv ct : Value) (us : List Value) (h : us.length = (["_law_state_here", "_law_operations_here", "_law_count", "_law_height"] : List Str).length) : bindArgs (PySem.W.fnOf "_law_term" "_law_term" (defArgs s_L_term) (defBody s_L_term) (defScope s_L_term) .none kV doc pm an cdv ct) ⟨us, []⟩ = pure ((["_law_state_here", "_law_operations_here", "_law_count", "_law_height"] : List Str).zip us) := match us, h with | [_, _, _, _], _ => rfl
theorem k_L_term (T : TopF K mg) (len : ∀ vs H Q E, sp vs H Q E → vs.length = 4)
    (hbody : ∀ (cdv : Value) (A : Around) (outer : List Env) (s : Shared) (H : Hp) (vs : List V) (Q : VK) (E : XK), Room k (A.deeper (envOfC "_law_term" (defScope s_L_term) s.heap.objs.size (He.ga K "_law_term") cdv)) → sp vs H Q E →
      ∃ t, PSs (cxOf CX0 P w K mg base ["_law_state_here", "_law_operations_here", "_law_count", "_law_height", "_law_name", "_law_arity", "_law_term_here", "_law_k"] "_law_term" (defScope s_L_term) (He.ga K "_law_term") cdv A outer s H E).nox (defBody s_L_term) t ∧ t { nx := fun _ H' => Q .non H', rt := Q } (start ["_law_state_here", "_law_operations_here", "_law_count", "_law_height", "_law_name", "_law_arity", "_law_term_here", "_law_k"] vs) H) : Cal P w K mg base CX0 (k + 1) "_law_term" ["_law_state_here", "_law_operations_here", "_law_count", "_law_height"] sp := Cal.mk0 T.m_L_term T.f_L_term b_L_term sc_L_term len hbody
theorem n_L_term (T : TopF K mg) (no : ∀ vs H Q E, ¬ sp vs H Q E) : Cal P w K mg base CX k "_law_term" ["_law_state_here", "_law_operations_here", "_law_count", "_law_height"] sp := Cal.none T.m_L_term T.f_L_term b_L_term no
theorem sc_L_subterm : FnScope ["_law_term_here", "_law_position", "_law_k"] ["_law_term_here", "_law_position"] (defScope s_L_subterm) := ⟨rfl, rfl, rfl, by decide +kernel, rfl, by decide +kernel, by decide +kernel⟩
theorem b_L_subterm (kV doc pm : Value) (an : Option Addr) (cdv ct : Value) (us : List Value) (h : us.length = (["_law_term_here", "_law_position"] : List Str).length) : bindArgs (PySem.W.fnOf "_law_subterm" "_law_subterm" (defArgs s_L_subterm) (defBody s_L_subterm) (defScope s_L_subterm) .none kV doc pm an cdv ct) ⟨us, []⟩ = pure ((["_law_term_here", "_law_position"] : List Str).zip us) := match us, h with | [_, _], _ => rfl
theorem k_L_subterm (T : TopF K mg) (len : ∀ vs H Q E, sp vs H Q E → vs.length = 2)
    (hbody : ∀ (cdv : Value) (A : Around) (outer : List Env) (s : Shared) (H : Hp) (vs : List V) (Q : VK) (E : XK), Room k (A.deeper (envOfC "_law_subterm" (defScope s_L_subterm) s.heap.objs.size (He.ga K "_law_subterm") cdv)) → sp vs H Q E →
      ∃ t, PSs (cxOf CX0 P w K mg base ["_law_term_here", "_law_position", "_law_k"] "_law_subterm" (defScope s_L_subterm) (He.ga K "_law_subterm") cdv A outer s H E).nox (defBody s_L_subterm) t ∧ t { nx := fun _ H' => Q .non H', rt := Q } (start ["_law_term_here", "_law_position", "_law_k"] vs) H) : Cal P w K mg base CX0 (k + 1) "_law_subterm" ["_law_term_here", "_law_position"] sp := Cal.mk0 T.m_L_subterm T.f_L_subterm b_L_subterm sc_L_subterm len hbody
theorem n_L_subterm (T : TopF K mg) (no : ∀ vs H Q E, ¬ sp vs H Q E) : Cal P w K mg base CX k "_law_subterm" ["_law_term_here", "_law_position"] sp := Cal.none T.m_L_subterm T.f_L_subterm b_L_subterm no
theorem sc_L_replace : FnScope ["_law_term_here", "_law_position", "_law_new", "_law_k"] ["_law_term_here", "_law_position", "_law_new"] (defScope s_L_replace) := ⟨rfl, rfl, rfl, by decide +kernel, rfl, by decide +kernel, by decide +kernel⟩
theorem b_L_replace (kV doc pm : Value) (an : Option Addr) (cdv ct : Value) (us : List Value) (h : us.length = (["_law_term_here", "_law_position", "_law_new"] : List Str).length) : bindArgs (PySem.W.fnOf "_law_replace" "_law_replace" (defArgs s_L_replace) (defBody s_L_replace) (defScope s_L_replace) .none kV doc pm an cdv ct) ⟨us, []⟩ = pure ((["_law_term_here", "_law_position", "_law_new"] : List Str).zip us) := match us, h with | [_, _, _], _ => rfl
theorem k_L_replace (T : TopF K mg) (len : ∀ vs H Q E, sp vs H Q E → vs.length = 3)
    (hbody : ∀ (cdv : Value) (A : Around) (outer : List Env) (s : Shared) (H : Hp) (vs : List V) (Q : VK) (E : XK), Room k (A.deeper (envOfC "_law_replace" (defScope s_L_replace) s.heap.objs.size (He.ga K "_law_replace") cdv)) → sp vs H Q E →
      ∃ t, PSs (cxOf CX0 P w K mg base ["_law_term_here", "_law_position", "_law_new", "_law_k"] "_law_replace" (defScope s_L_replace) (He.ga K "_law_replace") cdv A outer s H E).nox (defBody s_L_replace) t ∧ t { nx := fun _ H' => Q .non H', rt := Q } (start ["_law_term_here", "_law_position", "_law_new", "_law_k"] vs) H) : Cal P w K mg base CX0 (k + 1) "_law_replace" ["_law_term_here", "_law_position", "_law_new"] sp := Cal.mk0 T.m_L_replace T.f_L_replace b_L_replace sc_L_replace len hbody
theorem n_L_replace (T : TopF K mg) (no : ∀ vs H Q E, ¬ sp vs H Q E) : Cal P w K mg base CX k "_law_replace" ["_law_term_here", "_law_position", "_law_new"] sp := Cal.none T.m_L_replace T.f_L_replace b_L_replace no
theorem sc_L_positions : FnScope ["_law_term_here", "_law_found", "_law_k", "_law_inner"] ["_law_term_here"] (defScope s_L_positions) := ⟨rfl, rfl, rfl, by decide +kernel, rfl, by decide +kernel, by decide +kernel⟩
theorem b_L_positions (kV doc pm : Value) (an : Option Addr) (cdv ct : Value) (us : List Value) (h : us.length = (["_law_term_here"] : List Str).length) : bindArgs (PySem.W.fnOf "_law_positions" "_law_positions" (defArgs s_L_positions) (defBody s_L_positions) (defScope s_L_positions) .none kV doc pm an cdv ct) ⟨us, []⟩ = pure ((["_law_term_here"] : List Str).zip us) := match us, h with | [_], _ => rfl
theorem k_L_positions (T : TopF K mg) (len : ∀ vs H Q E, sp vs H Q E → vs.length = 1)
    (hbody : ∀ (cdv : Value) (A : Around) (outer : List Env) (s : Shared) (H : Hp) (vs : List V) (Q : VK) (E : XK), Room k (A.deeper (envOfC "_law_positions" (defScope s_L_positions) s.heap.objs.size (He.ga K "_law_positions") cdv)) → sp vs H Q E →
      ∃ t, PSs (cxOf CX0 P w K mg base ["_law_term_here", "_law_found", "_law_k", "_law_inner"] "_law_positions" (defScope s_L_positions) (He.ga K "_law_positions") cdv A outer s H E).nox (defBody s_L_positions) t ∧ t { nx := fun _ H' => Q .non H', rt := Q } (start ["_law_term_here", "_law_found", "_law_k", "_law_inner"] vs) H) : Cal P w K mg base CX0 (k + 1) "_law_positions" ["_law_term_here"] sp := Cal.mk0 T.m_L_positions T.f_L_positions b_L_positions sc_L_positions len hbody
theorem n_L_positions (T : TopF K mg) (no : ∀ vs H Q E, ¬ sp vs H Q E) : Cal P w K mg base CX k "_law_positions" ["_law_term_here"] sp := Cal.none T.m_L_positions T.f_L_positions b_L_positions no
theorem sc_L_substitute : FnScope ["_law_term_here", "_law_substitution", "_law_result", "_law_argument"] ["_law_term_here", "_law_substitution"] (defScope s_L_substitute) := ⟨rfl, rfl, rfl, by decide +kernel, rfl, by decide +kernel, by decide +kernel⟩
theorem b_L_substitute (kV doc pm : Value) (an : Option Addr) (cdv ct : Value) (us : List Value) (h : us.length = (["_law_term_here", "_law_substitution"] : List Str).length) : bindArgs (PySem.W.fnOf "_law_substitute" "_law_substitute" (defArgs s_L_substitute) (defBody s_L_substitute) (defScope s_L_substitute) .none kV doc pm an cdv ct) ⟨us, []⟩ = pure ((["_law_term_here", "_law_substitution"] : List Str).zip us) := match us, h with | [_, _], _ => rfl
theorem k_L_substitute (T : TopF K mg) (len : ∀ vs H Q E, sp vs H Q E → vs.length = 2)
    (hbody : ∀ (cdv : Value) (A : Around) (outer : List Env) (s : Shared) (H : Hp) (vs : List V) (Q : VK) (E : XK), Room k (A.deeper (envOfC "_law_substitute" (defScope s_L_substitute) s.heap.objs.size (He.ga K "_law_substitute") cdv)) → sp vs H Q E →
      ∃ t, PSs (cxOf CX0 P w K mg base ["_law_term_here", "_law_substitution", "_law_result", "_law_argument"] "_law_substitute" (defScope s_L_substitute) (He.ga K "_law_substitute") cdv A outer s H E).nox (defBody s_L_substitute) t ∧ t { nx := fun _ H' => Q .non H', rt := Q } (start ["_law_term_here", "_law_substitution", "_law_result", "_law_argument"] vs) H) : Cal P w K mg base CX0 (k + 1) "_law_substitute" ["_law_term_here", "_law_substitution"] sp := Cal.mk0 T.m_L_substitute T.f_L_substitute b_L_substitute sc_L_substitute len hbody
theorem n_L_substitute (T : TopF K mg) (no : ∀ vs H Q E, ¬ sp vs H Q E) : Cal P w K mg base CX k "_law_substitute" ["_law_term_here", "_law_substitution"] sp := Cal.none T.m_L_substitute T.f_L_substitute b_L_substitute no
theorem sc_L_variables : FnScope ["_law_term_here", "_law_found", "_law_argument", "_law_variable"] ["_law_term_here"] (defScope s_L_variables) := ⟨rfl, rfl, rfl, by decide +kernel, rfl, by decide +kernel, by decide +kernel⟩
theorem b_L_variables (kV doc pm : Value) (an : Option Addr) (cdv ct : Value) (us : List Value) (h : us.length = (["_law_term_here"] : List Str).length) : bindArgs (PySem.W.fnOf "_law_variables" "_law_variables" (defArgs s_L_variables) (defBody s_L_variables) (defScope s_L_variables) .none kV doc pm an cdv ct) ⟨us, []⟩ = pure ((["_law_term_here"] : List Str).zip us) := match us, h with | [_], _ => rfl
theorem k_L_variables (T : TopF K mg) (len : ∀ vs H Q E, sp vs H Q E → vs.length = 1)
    (hbody : ∀ (cdv : Value) (A : Around) (outer : List Env) (s : Shared) (H : Hp) (vs : List V) (Q : VK) (E : XK), Room k (A.deeper (envOfC "_law_variables" (defScope s_L_variables) s.heap.objs.size (He.ga K "_law_variables") cdv)) → sp vs H Q E →
      ∃ t, PSs (cxOf CX0 P w K mg base ["_law_term_here", "_law_found", "_law_argument", "_law_variable"] "_law_variables" (defScope s_L_variables) (He.ga K "_law_variables") cdv A outer s H E).nox (defBody s_L_variables) t ∧ t { nx := fun _ H' => Q .non H', rt := Q } (start ["_law_term_here", "_law_found", "_law_argument", "_law_variable"] vs) H) : Cal P w K mg base CX0 (k + 1) "_law_variables" ["_law_term_here"] sp := Cal.mk0 T.m_L_variables T.f_L_variables b_L_variables sc_L_variables len hbody
theorem n_L_variables (T : TopF K mg) (no : ∀ vs H Q E, ¬ sp vs H Q E) : Cal P w K mg base CX k "_law_variables" ["_law_term_here"] sp := Cal.none T.m_L_variables T.f_L_variables b_L_variables no
theorem sc_L_pattern : FnScope ["_law_state_here", "_law_term_here", "_law_places", "_law_position", "_law_pattern_here", "_law_bound", "_law_variable"] ["_law_state_here", "_law_term_here", "_law_places"] (defScope s_L_pattern) := ⟨rfl, rfl, rfl, by decide +kernel, rfl, by decide +kernel, by decide +kernel⟩
theorem b_L_pattern (kV doc pm : Value) (an : Option Addr) (cdv ct : Value) (us : List Value) (h : us.length = (["_law_state_here", "_law_term_here", "_law_places"] : List Str).length) : bindArgs (PySem.W.fnOf "_law_pattern" "_law_pattern" (defArgs s_L_pattern) (defBody s_L_pattern) (defScope s_L_pattern) .none kV doc pm an cdv ct) ⟨us, []⟩ = pure ((["_law_state_here", "_law_term_here", "_law_places"] : List Str).zip us) := match us, h with | [_, _, _], _ => rfl
theorem k_L_pattern (T : TopF K mg) (len : ∀ vs H Q E, sp vs H Q E → vs.length = 3)
    (hbody : ∀ (cdv : Value) (A : Around) (outer : List Env) (s : Shared) (H : Hp) (vs : List V) (Q : VK) (E : XK), Room k (A.deeper (envOfC "_law_pattern" (defScope s_L_pattern) s.heap.objs.size (He.ga K "_law_pattern") cdv)) → sp vs H Q E →
      ∃ t, PSs (cxOf CX0 P w K mg base ["_law_state_here", "_law_term_here", "_law_places", "_law_position", "_law_pattern_here", "_law_bound", "_law_variable"] "_law_pattern" (defScope s_L_pattern) (He.ga K "_law_pattern") cdv A outer s H E).nox (defBody s_L_pattern) t ∧ t { nx := fun _ H' => Q .non H', rt := Q } (start ["_law_state_here", "_law_term_here", "_law_places", "_law_position", "_law_pattern_here", "_law_bound", "_law_variable"] vs) H) : Cal P w K mg base CX0 (k + 1) "_law_pattern" ["_law_state_here", "_law_term_here", "_law_places"] sp := Cal.mk0 T.m_L_pattern T.f_L_pattern b_L_pattern sc_L_pattern len hbody
theorem n_L_pattern (T : TopF K mg) (no : ∀ vs H Q E, ¬ sp vs H Q E) : Cal P w K mg base CX k "_law_pattern" ["_law_state_here", "_law_term_here", "_law_places"] sp := Cal.none T.m_L_pattern T.f_L_pattern b_L_pattern no
theorem sc_L_step : FnScope ["_law_state_here", "_law_operations_here", "_law_count", "_law_term_here", "_law_source", "_law_places", "_law_position", "_law_inner", "_law_old", "_law_bound", "_law_new", "_law_variable", "_law_result"] ["_law_state_here", "_law_operations_here", "_law_count", "_law_term_here", "_law_source"] (defScope s_L_step) := ⟨rfl, rfl, rfl, by decide +kernel, rfl, by decide +kernel, by decide +kernel⟩
theorem b_L_step (kV doc pm : Value) (an : Option Addr) (cdv ct : Value) (us : List Value) (h : us.length = (["_law_state_here", "_law_operations_here", "_law_count", "_law_term_here", "_law_source"] : List Str).length) : bindArgs (PySem.W.fnOf "_law_step" "_law_step" (defArgs s_L_step) (defBody s_L_step) (defScope s_L_step) .none kV doc pm an cdv ct) ⟨us, []⟩ = pure ((["_law_state_here", "_law_operations_here", "_law_count", "_law_term_here", "_law_source"] : List Str).zip us) := match us, h with | [_, _, _, _, _], _ => rfl
theorem k_L_step (T : TopF K mg) (len : ∀ vs H Q E, sp vs H Q E → vs.length = 5)
    (hbody : ∀ (cdv : Value) (A : Around) (outer : List Env) (s : Shared) (H : Hp) (vs : List V) (Q : VK) (E : XK), Room k (A.deeper (envOfC "_law_step" (defScope s_L_step) s.heap.objs.size (He.ga K "_law_step") cdv)) → sp vs H Q E →
      ∃ t, PSs (cxOf CX0 P w K mg base ["_law_state_here", "_law_operations_here", "_law_count", "_law_term_here", "_law_source", "_law_places", "_law_position", "_law_inner", "_law_old", "_law_bound", "_law_new", "_law_variable", "_law_result"] "_law_step" (defScope s_L_step) (He.ga K "_law_step") cdv A outer s H E).nox (defBody s_L_step) t ∧ t { nx := fun _ H' => Q .non H', rt := Q } (start ["_law_state_here", "_law_operations_here", "_law_count", "_law_term_here", "_law_source", "_law_places", "_law_position", "_law_inner", "_law_old", "_law_bound", "_law_new", "_law_variable", "_law_result"] vs) H) : Cal P w K mg base CX0 (k + 1) "_law_step" ["_law_state_here", "_law_operations_here", "_law_count", "_law_term_here", "_law_source"] sp := Cal.mk0 T.m_L_step T.f_L_step b_L_step sc_L_step len hbody
theorem n_L_step (T : TopF K mg) (no : ∀ vs H Q E, ¬ sp vs H Q E) : Cal P w K mg base CX k "_law_step" ["_law_state_here", "_law_operations_here", "_law_count", "_law_term_here", "_law_source"] sp := Cal.none T.m_L_step T.f_L_step b_L_step no
theorem sc_L_tuples : FnScope ["_law_arity", "_law_size", "_law_found", "_law_row", "_law_element"] ["_law_arity", "_law_size"] (defScope s_L_tuples) := ⟨rfl, rfl, rfl, by decide +kernel, rfl, by decide +kernel, by decide +kernel⟩
theorem b_L_tuples (kV doc pm : Value) (an : Option Addr) (cdv ct : Value) (us : List Value) (h : us.length = (["_law_arity", "_law_size"] : List Str).length) : bindArgs (PySem.W.fnOf "_law_tuples" "_law_tuples" (defArgs s_L_tuples) (defBody s_L_tuples) (defScope s_L_tuples) .none kV doc pm an cdv ct) ⟨us, []⟩ = pure ((["_law_arity", "_law_size"] : List Str).zip us) := match us, h with | [_, _], _ => rfl
theorem k_L_tuples (T : TopF K mg) (len : ∀ vs H Q E, sp vs H Q E → vs.length = 2)
    (hbody : ∀ (cdv : Value) (A : Around) (outer : List Env) (s : Shared) (H : Hp) (vs : List V) (Q : VK) (E : XK), Room k (A.deeper (envOfC "_law_tuples" (defScope s_L_tuples) s.heap.objs.size (He.ga K "_law_tuples") cdv)) → sp vs H Q E →
      ∃ t, PSs (cxOf CX0 P w K mg base ["_law_arity", "_law_size", "_law_found", "_law_row", "_law_element"] "_law_tuples" (defScope s_L_tuples) (He.ga K "_law_tuples") cdv A outer s H E).nox (defBody s_L_tuples) t ∧ t { nx := fun _ H' => Q .non H', rt := Q } (start ["_law_arity", "_law_size", "_law_found", "_law_row", "_law_element"] vs) H) : Cal P w K mg base CX0 (k + 1) "_law_tuples" ["_law_arity", "_law_size"] sp := Cal.mk0 T.m_L_tuples T.f_L_tuples b_L_tuples sc_L_tuples len hbody
theorem n_L_tuples (T : TopF K mg) (no : ∀ vs H Q E, ¬ sp vs H Q E) : Cal P w K mg base CX k "_law_tuples" ["_law_arity", "_law_size"] sp := Cal.none T.m_L_tuples T.f_L_tuples b_L_tuples no
theorem sc_L_model : FnScope ["_law_state_here", "_law_operations_here", "_law_size", "_law_tables", "_law_name", "_law_arity", "_law_table", "_law_arguments", "_law_element"] ["_law_state_here", "_law_operations_here", "_law_size"] (defScope s_L_model) := ⟨rfl, rfl, rfl, by decide +kernel, rfl, by decide +kernel, by decide +kernel⟩
theorem b_L_model (kV doc pm : Value) (an : Option Addr) (cdv ct : Value) (us : List Value) (h : us.length = (["_law_state_here", "_law_operations_here", "_law_size"] : List Str).length) : bindArgs (PySem.W.fnOf "_law_model" "_law_model" (defArgs s_L_model) (defBody s_L_model) (defScope s_L_model) .none kV doc pm an cdv ct) ⟨us, []⟩ = pure ((["_law_state_here", "_law_operations_here", "_law_size"] : List Str).zip us) := match us, h with | [_, _, _], _ => rfl
theorem k_L_model (T : TopF K mg) (len : ∀ vs H Q E, sp vs H Q E → vs.length = 3)
    (hbody : ∀ (cdv : Value) (A : Around) (outer : List Env) (s : Shared) (H : Hp) (vs : List V) (Q : VK) (E : XK), Room k (A.deeper (envOfC "_law_model" (defScope s_L_model) s.heap.objs.size (He.ga K "_law_model") cdv)) → sp vs H Q E →
      ∃ t, PSs (cxOf CX0 P w K mg base ["_law_state_here", "_law_operations_here", "_law_size", "_law_tables", "_law_name", "_law_arity", "_law_table", "_law_arguments", "_law_element"] "_law_model" (defScope s_L_model) (He.ga K "_law_model") cdv A outer s H E).nox (defBody s_L_model) t ∧ t { nx := fun _ H' => Q .non H', rt := Q } (start ["_law_state_here", "_law_operations_here", "_law_size", "_law_tables", "_law_name", "_law_arity", "_law_table", "_law_arguments", "_law_element"] vs) H) : Cal P w K mg base CX0 (k + 1) "_law_model" ["_law_state_here", "_law_operations_here", "_law_size"] sp := Cal.mk0 T.m_L_model T.f_L_model b_L_model sc_L_model len hbody
theorem n_L_model (T : TopF K mg) (no : ∀ vs H Q E, ¬ sp vs H Q E) : Cal P w K mg base CX k "_law_model" ["_law_state_here", "_law_operations_here", "_law_size"] sp := Cal.none T.m_L_model T.f_L_model b_L_model no
theorem sc_L_value : FnScope ["_law_model_here", "_law_term_here", "_law_assignment", "_law_arguments", "_law_argument"] ["_law_model_here", "_law_term_here", "_law_assignment"] (defScope s_L_value) := ⟨rfl, rfl, rfl, by decide +kernel, rfl, by decide +kernel, by decide +kernel⟩
theorem b_L_value (kV doc pm : Value) (an : Option Addr) (cdv ct : Value) (us : List Value) (h : us.length = (["_law_model_here", "_law_term_here", "_law_assignment"] : List Str).length) : bindArgs (PySem.W.fnOf "_law_value" "_law_value" (defArgs s_L_value) (defBody s_L_value) (defScope s_L_value) .none kV doc pm an cdv ct) ⟨us, []⟩ = pure ((["_law_model_here", "_law_term_here", "_law_assignment"] : List Str).zip us) := match us, h with | [_, _, _], _ => rfl
theorem k_L_value (T : TopF K mg) (len : ∀ vs H Q E, sp vs H Q E → vs.length = 3)
    (hbody : ∀ (cdv : Value) (A : Around) (outer : List Env) (s : Shared) (H : Hp) (vs : List V) (Q : VK) (E : XK), Room k (A.deeper (envOfC "_law_value" (defScope s_L_value) s.heap.objs.size (He.ga K "_law_value") cdv)) → sp vs H Q E →
      ∃ t, PSs (cxOf CX0 P w K mg base ["_law_model_here", "_law_term_here", "_law_assignment", "_law_arguments", "_law_argument"] "_law_value" (defScope s_L_value) (He.ga K "_law_value") cdv A outer s H E).nox (defBody s_L_value) t ∧ t { nx := fun _ H' => Q .non H', rt := Q } (start ["_law_model_here", "_law_term_here", "_law_assignment", "_law_arguments", "_law_argument"] vs) H) : Cal P w K mg base CX0 (k + 1) "_law_value" ["_law_model_here", "_law_term_here", "_law_assignment"] sp := Cal.mk0 T.m_L_value T.f_L_value b_L_value sc_L_value len hbody
theorem n_L_value (T : TopF K mg) (no : ∀ vs H Q E, ¬ sp vs H Q E) : Cal P w K mg base CX k "_law_value" ["_law_model_here", "_law_term_here", "_law_assignment"] sp := Cal.none T.m_L_value T.f_L_value b_L_value no
theorem sc_L_equation_names : FnScope ["_law_left", "_law_right", "_law_names_here", "_law_variable"] ["_law_left", "_law_right"] (defScope s_L_equation_names) := ⟨rfl, rfl, rfl, by decide +kernel, rfl, by decide +kernel, by decide +kernel⟩
theorem b_L_equation_names (kV doc pm : Value) (an : Option Addr) (cdv ct : Value) (us : List Value) (h : us.length = (["_law_left", "_law_right"] : List Str).length) : bindArgs (PySem.W.fnOf "_law_equation_names" "_law_equation_names" (defArgs s_L_equation_names) (defBody s_L_equation_names) (defScope s_L_equation_names) .none kV doc pm an cdv ct) ⟨us, []⟩ = pure ((["_law_left", "_law_right"] : List Str).zip us) := match us, h with | [_, _], _ => rfl
theorem k_L_equation_names (T : TopF K mg) (len : ∀ vs H Q E, sp vs H Q E → vs.length = 2)
    (hbody : ∀ (cdv : Value) (A : Around) (outer : List Env) (s : Shared) (H : Hp) (vs : List V) (Q : VK) (E : XK), Room k (A.deeper (envOfC "_law_equation_names" (defScope s_L_equation_names) s.heap.objs.size (He.ga K "_law_equation_names") cdv)) → sp vs H Q E →
      ∃ t, PSs (cxOf CX0 P w K mg base ["_law_left", "_law_right", "_law_names_here", "_law_variable"] "_law_equation_names" (defScope s_L_equation_names) (He.ga K "_law_equation_names") cdv A outer s H E).nox (defBody s_L_equation_names) t ∧ t { nx := fun _ H' => Q .non H', rt := Q } (start ["_law_left", "_law_right", "_law_names_here", "_law_variable"] vs) H) : Cal P w K mg base CX0 (k + 1) "_law_equation_names" ["_law_left", "_law_right"] sp := Cal.mk0 T.m_L_equation_names T.f_L_equation_names b_L_equation_names sc_L_equation_names len hbody
theorem n_L_equation_names (T : TopF K mg) (no : ∀ vs H Q E, ¬ sp vs H Q E) : Cal P w K mg base CX k "_law_equation_names" ["_law_left", "_law_right"] sp := Cal.none T.m_L_equation_names T.f_L_equation_names b_L_equation_names no
theorem sc_L_first_difference : FnScope ["_law_model_here", "_law_left", "_law_right", "_law_names_here", "_law_row", "_law_assignment", "_law_k"] ["_law_model_here", "_law_left", "_law_right"] (defScope s_L_first_difference) := ⟨rfl, rfl, rfl, by decide +kernel, rfl, by decide +kernel, by decide +kernel⟩
theorem b_L_first_difference (kV doc pm : Value) (an : Option Addr) (cdv ct : Value) (us : List Value) (h : us.length = (["_law_model_here", "_law_left", "_law_right"] : List Str).length) : bindArgs (PySem.W.fnOf "_law_first_difference" "_law_first_difference" (defArgs s_L_first_difference) (defBody s_L_first_difference) (defScope s_L_first_difference) .none kV doc pm an cdv ct) ⟨us, []⟩ = pure ((["_law_model_here", "_law_left", "_law_right"] : List Str).zip us) := match us, h with | [_, _, _], _ => rfl
theorem k_L_first_difference (T : TopF K mg) (len : ∀ vs H Q E, sp vs H Q E → vs.length = 3)
    (hbody : ∀ (cdv : Value) (A : Around) (outer : List Env) (s : Shared) (H : Hp) (vs : List V) (Q : VK) (E : XK), Room k (A.deeper (envOfC "_law_first_difference" (defScope s_L_first_difference) s.heap.objs.size (He.ga K "_law_first_difference") cdv)) → sp vs H Q E →
      ∃ t, PSs (cxOf CX0 P w K mg base ["_law_model_here", "_law_left", "_law_right", "_law_names_here", "_law_row", "_law_assignment", "_law_k"] "_law_first_difference" (defScope s_L_first_difference) (He.ga K "_law_first_difference") cdv A outer s H E).nox (defBody s_L_first_difference) t ∧ t { nx := fun _ H' => Q .non H', rt := Q } (start ["_law_model_here", "_law_left", "_law_right", "_law_names_here", "_law_row", "_law_assignment", "_law_k"] vs) H) : Cal P w K mg base CX0 (k + 1) "_law_first_difference" ["_law_model_here", "_law_left", "_law_right"] sp := Cal.mk0 T.m_L_first_difference T.f_L_first_difference b_L_first_difference sc_L_first_difference len hbody
theorem n_L_first_difference (T : TopF K mg) (no : ∀ vs H Q E, ¬ sp vs H Q E) : Cal P w K mg base CX k "_law_first_difference" ["_law_model_here", "_law_left", "_law_right"] sp := Cal.none T.m_L_first_difference T.f_L_first_difference b_L_first_difference no
theorem sc_L_true_step : FnScope ["_law_state_here", "_law_operations_here", "_law_model_here", "_law_term_here", "_law_source", "_law_k", "_law_equation", "_law_step_here", "_law_result", "_law_bound"] ["_law_state_here", "_law_operations_here", "_law_model_here", "_law_term_here", "_law_source"] (defScope s_L_true_step) := ⟨rfl, rfl, rfl, by decide +kernel, rfl, by decide +kernel, by decide +kernel⟩
theorem b_L_true_step (kV doc pm : Value) (an : Option Addr) (cdv ct : Value) (us : List Value) (h : us.length = (["_law_state_here", "_law_operations_here", "_law_model_here", "_law_term_here", "_law_source"] : List Str).length) : bindArgs (PySem.W.fnOf "_law_true_step" "_law_true_step" (defArgs s_L_true_step) (defBody s_L_true_step) (defScope s_L_true_step) .none kV doc pm an cdv ct) ⟨us, []⟩ = pure ((["_law_state_here", "_law_operations_here", "_law_model_here", "_law_term_here", "_law_source"] : List Str).zip us) := match us, h with | [_, _, _, _, _], _ => rfl
theorem k_L_true_step (T : TopF K mg) (len : ∀ vs H Q E, sp vs H Q E → vs.length = 5)
    (hbody : ∀ (cdv : Value) (A : Around) (outer : List Env) (s : Shared) (H : Hp) (vs : List V) (Q : VK) (E : XK), Room k (A.deeper (envOfC "_law_true_step" (defScope s_L_true_step) s.heap.objs.size (He.ga K "_law_true_step") cdv)) → sp vs H Q E →
      ∃ t, PSs (cxOf CX0 P w K mg base ["_law_state_here", "_law_operations_here", "_law_model_here", "_law_term_here", "_law_source", "_law_k", "_law_equation", "_law_step_here", "_law_result", "_law_bound"] "_law_true_step" (defScope s_L_true_step) (He.ga K "_law_true_step") cdv A outer s H E).nox (defBody s_L_true_step) t ∧ t { nx := fun _ H' => Q .non H', rt := Q } (start ["_law_state_here", "_law_operations_here", "_law_model_here", "_law_term_here", "_law_source", "_law_k", "_law_equation", "_law_step_here", "_law_result", "_law_bound"] vs) H) : Cal P w K mg base CX0 (k + 1) "_law_true_step" ["_law_state_here", "_law_operations_here", "_law_model_here", "_law_term_here", "_law_source"] sp := Cal.mk0 T.m_L_true_step T.f_L_true_step b_L_true_step sc_L_true_step len hbody
theorem n_L_true_step (T : TopF K mg) (no : ∀ vs H Q E, ¬ sp vs H Q E) : Cal P w K mg base CX k "_law_true_step" ["_law_state_here", "_law_operations_here", "_law_model_here", "_law_term_here", "_law_source"] sp := Cal.none T.m_L_true_step T.f_L_true_step b_L_true_step no
theorem sc_L_line : FnScope ["_law_state_here", "_law_operations_here", "_law_model_here", "_law_given", "_law_many", "_law_term_here", "_law_start", "_law_steps", "_law_k", "_law_equation", "_law_step_here"] ["_law_state_here", "_law_operations_here", "_law_model_here", "_law_given", "_law_many"] (defScope s_L_line) := ⟨rfl, rfl, rfl, by decide +kernel, rfl, by decide +kernel, by decide +kernel⟩
theorem b_L_line (kV doc pm : Value) (an : Option Addr) (cdv ct : Value) (us : List Value) (h : us.length = (["_law_state_here", "_law_operations_here", "_law_model_here", "_law_given", "_law_many"] : List Str).length) : bindArgs (PySem.W.fnOf "_law_line" "_law_line" (defArgs s_L_line) (defBody s_L_line) (defScope s_L_line) .none kV doc pm an cdv ct) ⟨us, []⟩ = pure ((["_law_state_here", "_law_operations_here", "_law_model_here", "_law_given", "_law_many"] : List Str).zip us) := match us, h with | [_, _, _, _, _], _ => rfl
theorem k_L_line (T : TopF K mg) (len : ∀ vs H Q E, sp vs H Q E → vs.length = 5)
    (hbody : ∀ (cdv : Value) (A : Around) (outer : List Env) (s : Shared) (H : Hp) (vs : List V) (Q : VK) (E : XK), Room k (A.deeper (envOfC "_law_line" (defScope s_L_line) s.heap.objs.size (He.ga K "_law_line") cdv)) → sp vs H Q E →
      ∃ t, PSs (cxOf CX0 P w K mg base ["_law_state_here", "_law_operations_here", "_law_model_here", "_law_given", "_law_many", "_law_term_here", "_law_start", "_law_steps", "_law_k", "_law_equation", "_law_step_here"] "_law_line" (defScope s_L_line) (He.ga K "_law_line") cdv A outer s H E).nox (defBody s_L_line) t ∧ t { nx := fun _ H' => Q .non H', rt := Q } (start ["_law_state_here", "_law_operations_here", "_law_model_here", "_law_given", "_law_many", "_law_term_here", "_law_start", "_law_steps", "_law_k", "_law_equation", "_law_step_here"] vs) H) : Cal P w K mg base CX0 (k + 1) "_law_line" ["_law_state_here", "_law_operations_here", "_law_model_here", "_law_given", "_law_many"] sp := Cal.mk0 T.m_L_line T.f_L_line b_L_line sc_L_line len hbody
theorem n_L_line (T : TopF K mg) (no : ∀ vs H Q E, ¬ sp vs H Q E) : Cal P w K mg base CX k "_law_line" ["_law_state_here", "_law_operations_here", "_law_model_here", "_law_given", "_law_many"] sp := Cal.none T.m_L_line T.f_L_line b_L_line no
theorem sc_L_by_stage : FnScope ["_law_state_here", "_law_stages", "_law_left", "_law_right", "_law_steps", "_law_j", "_law_start", "_law_end", "_law_others", "_law_bound", "_law_variable"] ["_law_state_here", "_law_stages", "_law_left", "_law_right", "_law_steps"] (defScope s_L_by_stage) := ⟨rfl, rfl, rfl, by decide +kernel, rfl, by decide +kernel, by decide +kernel⟩
theorem b_L_by_stage (kV doc pm : Value) (an : Option Addr) (cdv ct : Value) (us : List Value) (h : us.length = (["_law_state_here", "_law_stages", "_law_left", "_law_right", "_law_steps"] : List Str).length) : bindArgs (PySem.W.fnOf "_law_by_stage" "_law_by_stage" (defArgs s_L_by_stage) (defBody s_L_by_stage) (defScope s_L_by_stage) .none kV doc pm an cdv ct) ⟨us, []⟩ = pure ((["_law_state_here", "_law_stages", "_law_left", "_law_right", "_law_steps"] : List Str).zip us) := match us, h with | [_, _, _, _, _], _ => rfl
theorem k_L_by_stage (T : TopF K mg) (len : ∀ vs H Q E, sp vs H Q E → vs.length = 5)
    (hbody : ∀ (cdv : Value) (A : Around) (outer : List Env) (s : Shared) (H : Hp) (vs : List V) (Q : VK) (E : XK), Room k (A.deeper (envOfC "_law_by_stage" (defScope s_L_by_stage) s.heap.objs.size (He.ga K "_law_by_stage") cdv)) → sp vs H Q E →
      ∃ t, PSs (cxOf CX0 P w K mg base ["_law_state_here", "_law_stages", "_law_left", "_law_right", "_law_steps", "_law_j", "_law_start", "_law_end", "_law_others", "_law_bound", "_law_variable"] "_law_by_stage" (defScope s_L_by_stage) (He.ga K "_law_by_stage") cdv A outer s H E).nox (defBody s_L_by_stage) t ∧ t { nx := fun _ H' => Q .non H', rt := Q } (start ["_law_state_here", "_law_stages", "_law_left", "_law_right", "_law_steps", "_law_j", "_law_start", "_law_end", "_law_others", "_law_bound", "_law_variable"] vs) H) : Cal P w K mg base CX0 (k + 1) "_law_by_stage" ["_law_state_here", "_law_stages", "_law_left", "_law_right", "_law_steps"] sp := Cal.mk0 T.m_L_by_stage T.f_L_by_stage b_L_by_stage sc_L_by_stage len hbody
theorem n_L_by_stage (T : TopF K mg) (no : ∀ vs H Q E, ¬ sp vs H Q E) : Cal P w K mg base CX k "_law_by_stage" ["_law_state_here", "_law_stages", "_law_left", "_law_right", "_law_steps"] sp := Cal.none T.m_L_by_stage T.f_L_by_stage b_L_by_stage no
theorem sc_L_spoilt : FnScope ["_law_state_here", "_law_operations_here", "_law_stages", "_law_left", "_law_right", "_law_steps", "_law_kind", "_law_at", "_law_source", "_law_is_forward", "_law_position", "_law_bound", "_law_places"] ["_law_state_here", "_law_operations_here", "_law_stages"] (defScope s_L_spoilt) := ⟨rfl, rfl, rfl, by decide +kernel, rfl, by decide +kernel, by decide +kernel⟩
theorem b_L_spoilt (kV doc pm : Value) (an : Option Addr) (cdv ct : Value) (us : List Value) (h : us.length = (["_law_state_here", "_law_operations_here", "_law_stages"] : List Str).length) : bindArgs (PySem.W.fnOf "_law_spoilt" "_law_spoilt" (defArgs s_L_spoilt) (defBody s_L_spoilt) (defScope s_L_spoilt) .none kV doc pm an cdv ct) ⟨us, []⟩ = pure ((["_law_state_here", "_law_operations_here", "_law_stages"] : List Str).zip us) := match us, h with | [_, _, _], _ => rfl
theorem k_L_spoilt (T : TopF K mg) (len : ∀ vs H Q E, sp vs H Q E → vs.length = 3)
    (hbody : ∀ (cdv : Value) (A : Around) (outer : List Env) (s : Shared) (H : Hp) (vs : List V) (Q : VK) (E : XK), Room k (A.deeper (envOfC "_law_spoilt" (defScope s_L_spoilt) s.heap.objs.size (He.ga K "_law_spoilt") cdv)) → sp vs H Q E →
      ∃ t, PSs (cxOf CX0 P w K mg base ["_law_state_here", "_law_operations_here", "_law_stages", "_law_left", "_law_right", "_law_steps", "_law_kind", "_law_at", "_law_source", "_law_is_forward", "_law_position", "_law_bound", "_law_places"] "_law_spoilt" (defScope s_L_spoilt) (He.ga K "_law_spoilt") cdv A outer s H E).nox (defBody s_L_spoilt) t ∧ t { nx := fun _ H' => Q .non H', rt := Q } (start ["_law_state_here", "_law_operations_here", "_law_stages", "_law_left", "_law_right", "_law_steps", "_law_kind", "_law_at", "_law_source", "_law_is_forward", "_law_position", "_law_bound", "_law_places"] vs) H) : Cal P w K mg base CX0 (k + 1) "_law_spoilt" ["_law_state_here", "_law_operations_here", "_law_stages"] sp := Cal.mk0 T.m_L_spoilt T.f_L_spoilt b_L_spoilt sc_L_spoilt len hbody
theorem n_L_spoilt (T : TopF K mg) (no : ∀ vs H Q E, ¬ sp vs H Q E) : Cal P w K mg base CX k "_law_spoilt" ["_law_state_here", "_law_operations_here", "_law_stages"] sp := Cal.none T.m_L_spoilt T.f_L_spoilt b_L_spoilt no
theorem sc_L_refuses : FnScope ["_law_given", "_law_model_here", "_law_stages", "_law_left", "_law_right", "_law_steps"] ["_law_given", "_law_model_here", "_law_stages"] (defScope s_L_refuses) := ⟨rfl, rfl, rfl, by decide +kernel, rfl, by decide +kernel, by decide +kernel⟩
theorem b_L_refuses (kV doc pm : Value) (an : Option Addr) (cdv ct : Value) (us : List Value) (h : us.length = (["_law_given", "_law_model_here", "_law_stages"] : List Str).length) : bindArgs (PySem.W.fnOf "_law_refuses" "_law_refuses" (defArgs s_L_refuses) (defBody s_L_refuses) (defScope s_L_refuses) .none kV doc pm an cdv ct) ⟨us, []⟩ = pure ((["_law_given", "_law_model_here", "_law_stages"] : List Str).zip us) := match us, h with | [_, _, _], _ => rfl
theorem k_L_refuses (T : TopF K mg) (len : ∀ vs H Q E, sp vs H Q E → vs.length = 3)
    (hbody : ∀ (cdv : Value) (A : Around) (outer : List Env) (s : Shared) (H : Hp) (vs : List V) (Q : VK) (E : XK), Room k (A.deeper (envOfC "_law_refuses" (defScope s_L_refuses) s.heap.objs.size (He.ga K "_law_refuses") cdv)) → sp vs H Q E →
      ∃ t, PSs (cxOf CX0 P w K mg base ["_law_given", "_law_model_here", "_law_stages", "_law_left", "_law_right", "_law_steps"] "_law_refuses" (defScope s_L_refuses) (He.ga K "_law_refuses") cdv A outer s H E).nox (defBody s_L_refuses) t ∧ t { nx := fun _ H' => Q .non H', rt := Q } (start ["_law_given", "_law_model_here", "_law_stages", "_law_left", "_law_right", "_law_steps"] vs) H) : Cal P w K mg base CX0 (k + 1) "_law_refuses" ["_law_given", "_law_model_here", "_law_stages"] sp := Cal.mk0 T.m_L_refuses T.f_L_refuses b_L_refuses sc_L_refuses len hbody
theorem n_L_refuses (T : TopF K mg) (no : ∀ vs H Q E, ¬ sp vs H Q E) : Cal P w K mg base CX k "_law_refuses" ["_law_given", "_law_model_here", "_law_stages"] sp := Cal.none T.m_L_refuses T.f_L_refuses b_L_refuses no
theorem sc_L_turned : FnScope ["_law_state_here", "_law_operations_here", "_law_stages", "_law_first", "_law_second", "_law_kind", "_law_bound", "_law_variable", "_law_later", "_law_last", "_law_left", "_law_right", "_law_steps", "_law_names_here", "_law_number_here"] ["_law_state_here", "_law_operations_here", "_law_stages"] (defScope s_L_turned) := ⟨rfl, rfl, rfl, by decide +kernel, rfl, by decide +kernel, by decide +kernel⟩
theorem b_L_turned (kV doc pm : Value) (an : Option Addr) (cdv ct : Value) (us : List Value) (h : us.length = (["_law_state_here", "_law_operations_here", "_law_stages"] : List Str).length) : bindArgs (PySem.W.fnOf "_law_turned" "_law_turned" (defArgs s_L_turned) (defBody s_L_turned) (defScope s_L_turned) .none kV doc pm an cdv ct) ⟨us, []⟩ = pure ((["_law_state_here", "_law_operations_here", "_law_stages"] : List Str).zip us) := match us, h with | [_, _, _], _ => rfl
theorem k_L_turned (T : TopF K mg) (len : ∀ vs H Q E, sp vs H Q E → vs.length = 3)
    (hbody : ∀ (cdv : Value) (A : Around) (outer : List Env) (s : Shared) (H : Hp) (vs : List V) (Q : VK) (E : XK), Room k (A.deeper (envOfC "_law_turned" (defScope s_L_turned) s.heap.objs.size (He.ga K "_law_turned") cdv)) → sp vs H Q E →
      ∃ t, PSs (cxOf CX0 P w K mg base ["_law_state_here", "_law_operations_here", "_law_stages", "_law_first", "_law_second", "_law_kind", "_law_bound", "_law_variable", "_law_later", "_law_last", "_law_left", "_law_right", "_law_steps", "_law_names_here", "_law_number_here"] "_law_turned" (defScope s_L_turned) (He.ga K "_law_turned") cdv A outer s H E).nox (defBody s_L_turned) t ∧ t { nx := fun _ H' => Q .non H', rt := Q } (start ["_law_state_here", "_law_operations_here", "_law_stages", "_law_first", "_law_second", "_law_kind", "_law_bound", "_law_variable", "_law_later", "_law_last", "_law_left", "_law_right", "_law_steps", "_law_names_here", "_law_number_here"] vs) H) : Cal P w K mg base CX0 (k + 1) "_law_turned" ["_law_state_here", "_law_operations_here", "_law_stages"] sp := Cal.mk0 T.m_L_turned T.f_L_turned b_L_turned sc_L_turned len hbody
theorem n_L_turned (T : TopF K mg) (no : ∀ vs H Q E, ¬ sp vs H Q E) : Cal P w K mg base CX k "_law_turned" ["_law_state_here", "_law_operations_here", "_law_stages"] sp := Cal.none T.m_L_turned T.f_L_turned b_L_turned no
theorem sc_law : FnScope ["_law_script", "_law_state_here", "_law_operations_here", "_law_model_here", "_law_given", "_law_stages", "_law_k", "_law_stage", "_law_left", "_law_right", "_law_steps", "_law_start", "_law_end", "_law_line_here", "_law_changed", "_law_due"] ["_law_script"] (defScope s_law) := ⟨rfl, rfl, rfl, by decide +kernel, rfl, by decide +kernel, by decide +kernel⟩
theorem b_law (kV doc pm : Value) (an : Option Addr) (cdv ct : Value) (us : List Value) (h : us.length = (["_law_script"] : List Str).length) : bindArgs (PySem.W.fnOf "law" "law" (defArgs s_law) (defBody s_law) (defScope s_law) .none kV doc pm an cdv ct) ⟨us, []⟩ = pure ((["_law_script"] : List Str).zip us) := match us, h with | [_], _ => rfl
theorem k_law (T : TopF K mg) (len : ∀ vs H Q E, sp vs H Q E → vs.length = 1)
    (hbody : ∀ (cdv : Value) (A : Around) (outer : List Env) (s : Shared) (H : Hp) (vs : List V) (Q : VK) (E : XK), Room k (A.deeper (envOfC "law" (defScope s_law) s.heap.objs.size (He.ga K "law") cdv)) → sp vs H Q E →
      ∃ t, PSs (cxOf CX0 P w K mg base ["_law_script", "_law_state_here", "_law_operations_here", "_law_model_here", "_law_given", "_law_stages", "_law_k", "_law_stage", "_law_left", "_law_right", "_law_steps", "_law_start", "_law_end", "_law_line_here", "_law_changed", "_law_due"] "law" (defScope s_law) (He.ga K "law") cdv A outer s H E).nox (defBody s_law) t ∧ t { nx := fun _ H' => Q .non H', rt := Q } (start ["_law_script", "_law_state_here", "_law_operations_here", "_law_model_here", "_law_given", "_law_stages", "_law_k", "_law_stage", "_law_left", "_law_right", "_law_steps", "_law_start", "_law_end", "_law_line_here", "_law_changed", "_law_due"] vs) H) : Cal P w K mg base CX0 (k + 1) "law" ["_law_script"] sp := Cal.mk0 T.m_law T.f_law b_law sc_law len hbody
theorem n_law (T : TopF K mg) (no : ∀ vs H Q E, ¬ sp vs H Q E) : Cal P w K mg base CX k "law" ["_law_script"] sp := Cal.none T.m_law T.f_law b_law no
end
end K65
namespace K65
open PySem PySem.Spec PyProof.Rows L2
section
variable {P : Program} {w : World} {K : PySem.W.Frag} {mg : Str → Option Value} {base : Heap}
/-! ### is_variable -/
@[irreducible] def spIsV : Sp := fun vs H Q _ => ∃ x, vs = [x] ∧ ((∃ n, x = .int n ∧ Q (.bl true) H) ∨ (∃ p ys, x = .ref p ∧ H p = some (.tup ys) ∧ Q (.bl false) H) ∨ ∃ s, x = .str s ∧ Q (.bl false) H)
theorem c_isV (T : TopF K mg) : Cal P w K mg base CX0 1 "is_variable" ["term"] spIsV := by
  refine k_is_variable T (fun vs H Q E h => by unfold spIsV at h; obtain ⟨x, rfl, _⟩ := h; rfl) (fun cdv A outer s H vs Q E hr h => ?_)
  unfold spIsV at h
  obtain ⟨x, rfl, h⟩ := h
  refine ⟨_, pss_one (ps_ret (pe_callB call_isi rfl T.z_isinstance (by decide +kernel) (pa_cons (pv 0) (pa_cons (pe_bltn (v := .ty "int") (u := .type "int") rfl T.z_int (by decide +kernel) rfl) pa_nil)))), ?_⟩
  rcases h with ⟨n, rfl, q⟩ | ⟨p, ys, rfl, hp, q⟩ | ⟨z, rfl, q⟩
  · exact ⟨_, rfl, _, _, _, _, _, rfl, .ty _, .base (.int n), kit_ty (by decide +kernel), q⟩
  · exact ⟨_, rfl, _, _, _, _, _, rfl, .ty _, .base (.tup hp), kit_ty (by decide +kernel), q⟩
  · exact ⟨_, rfl, _, _, _, _, _, rfl, .ty _, .base (.str z), kit_ty (by decide +kernel), q⟩
theorem isV_tm {H : Hp} {t : Tm} {x : V} {Q : VK} {E : XK} (h : IsTm H t x) (h1 : ∀ n, t = .v n → x = .int n → Q (.bl true) H) (h2 : ∀ f as p vs, t = .a f as → x = .ref p → H p = some (.tup (.str f :: vs)) → IsTms H as vs → Q (.bl false) H) : spIsV [x] H Q E := by
  unfold spIsV
  cases t with
  | v n => exact ⟨x, rfl, .inl ⟨n, h, h1 n rfl h⟩⟩
  | a f as =>
    obtain ⟨p, vs, e, hp, hs⟩ := h
    exact ⟨x, rfl, .inr (.inl ⟨p, _, e, hp, h2 f as p vs rfl e hp hs⟩)⟩
/-- for argument in term[1:]: ..; term is in slot i -/
theorem rd_args {i : Nat} {σ : L2.St} {H : Hp} {p : Addr} {y : V} {vs : List V} {R : It → Hp → Prop} (hi : σ[i]? = some (some (.ref p))) (hp : H p = some (.tup (y :: vs))) (h : ∀ q, H q = none → R (Itt K q) (upd H q (.tup vs))) :
    iTup K (tSl (rSlA K) (tVar i) (tPart (tC (.int 1))) tNoPart) σ H R := by
  refine ⟨_, hi, 1, rfl, p, _, rfl, sqt hp, fun z => ?_, fun _ q hq => ⟨q, rfl, ⟨_, sqt upd_same⟩, ?_⟩⟩
  · have z1 : HT.sIx (y :: vs).length 0 (some 1) = 0 := z.1
    exact absurd z1 (by simp [HT.sIx])
  · rw [cut1]
    exact h q hq
/-! ### size -/
@[irreducible] def spSize (n : Nat) : Sp := fun vs H Q _ => ∃ t x, vs = [x] ∧ IsTm H t x ∧ t.depth ≤ n ∧ ∀ H', Same H H' → Q (.int t.size) H'
theorem spSize.i {n : Nat} {H : Hp} {t : Tm} {x : V} {Q : VK} {E : XK} (h : IsTm H t x) (hd : t.depth ≤ n) (q : ∀ H', Same H H' → Q (.int t.size) H') : spSize n [x] H Q E := by
  unfold spSize
  exact ⟨t, x, rfl, h, hd, q⟩
theorem sizes_take {ts : List Tm} {i : Nat} {t : Tm} (h : ts[i]? = some t) : Tm.sizes (ts.take (i + 1)) = Tm.sizes (ts.take i) + t.size := by
  induction ts generalizing i with
  | nil => simp at h
  | cons u ts ih =>
    cases i with
    | zero => simp at h; subst h; simp [Tm.sizes]
    | succ i =>
      have q := ih (i := i) (by simpa using h)
      simp only [List.take_succ_cons, Tm.sizes, q]
      omega
theorem depth_arg {ts : List Tm} {i : Nat} {t : Tm} (h : ts[i]? = some t) : t.depth ≤ Tm.depths ts := by
  induction ts generalizing i with
  | nil => simp at h
  | cons u ts ih =>
    cases i with
    | zero => simp at h; subst h; simp only [Tm.depths]; omega
    | succ i =>
      have q := ih (i := i) (by simpa using h)
      simp only [Tm.depths]
      omega
theorem c_size (T : TopF K mg) : ∀ n : Nat, Cal P w K mg base CX0 (n + 1) "size" ["term"] (spSize n)
  | 0 => n_size T (fun vs H Q E h => by
    unfold spSize at h
    obtain ⟨t, x, _, _, hd, _⟩ := h
    have := t.depth_pos
    omega)
  | n + 1 => by
    have ih := c_size T n
    refine k_size T (fun vs H Q E h => by unfold spSize at h; obtain ⟨t, x, rfl, _⟩ := h; rfl) (fun cdv A outer s H vs Q E hr h => ?_)
    unfold spSize at h
    obtain ⟨t, x, rfl, ht, hd, q⟩ := h
    refine ⟨_, pss_cons (ps_if (pt_val (pe_cal (c_isV T) (hr.mono (by omega)) rfl pass0 (pa_cons (pv 0) pa_nil))) (pss_one (ps_ret pe_int)) pss_nil)
      (pss_cons (ps_set (i := 1) sc_size.nd rfl (Or.inl rfl) pe_int)
      (pss_cons (ps_for PassesOwn.never rfl (pi_tup (pe_slice sl_tupA (pv 0) (po_some pe_int) po_none)) (pg_name (i := 2) sc_size.nd rfl (Or.inl rfl))
        (pss_one (ps_aug (i := 1) sc_size.nd rfl (Or.inl rfl) (pe_cal ih hr rfl pass0 (pa_cons (pv 2) pa_nil)) ip_add)))
      (pss_one (ps_ret (pv 1))))), ?_⟩
    refine rd_when1 (rd_B (rd_call1 (rd_var rfl (isV_tm ht (fun m e1 e2 => ⟨_, rfl, iteT ?_⟩) (fun f as p us e1 e2 hp hs => ⟨_, rfl, iteF ?_⟩)))))
    · subst e1
      exact q H (Same.refl H)
    · subst e1
      subst e2
      refine rd_let (rd_c (rd_seq (rd_for (rd_args rfl hp fun a ha => ?_))))
      have s0 : Same H (upd H a (.tup us)) := Same.new ha _
      refine for_tup (K := K) (a := a) (xs := us) (fun i σ H' => ∃ z, σ = [some (.ref p), some (.int ((1 + Tm.sizes (as.take i) : Nat) : Int)), z] ∧ Same (upd H a (.tup us)) H') ⟨_, rfl, Same.refl _⟩ (fun i σ H' _ hh => ?_) ?_ ?_
      · obtain ⟨z, rfl, s1⟩ := hh
        exact sqt (s1 _ _ upd_same)
      · rintro i y σ H' hi ⟨z, rfl, s1⟩
        obtain ⟨u, hu, hy⟩ := hs.get hi
        have hde := depth_arg hu
        have hd' : 1 + Tm.depths as ≤ n + 1 := hd
        refine ⟨_, rfl, _, rfl, spSize.i (hy.mono (Tups.same (s0.trans s1))) (by omega) fun H'' s2 => ⟨_, _, rfl, rfl, some y, ?_, s1.trans s2⟩⟩
        rw [sizes_take hu]
        have e : ((1 + Tm.sizes (as.take i) : Nat) : Int) + (u.size : Int) = ((1 + (Tm.sizes (as.take i) + u.size) : Nat) : Int) := by omega
        rw [← e]
        rfl
      · rintro σ H' ⟨z, rfl, s1⟩
        rw [hs.length, List.take_length]
        exact ⟨_, rfl, q _ (s0.trans s1)⟩
/-! ### depth -/
@[irreducible] def spDepth (n : Nat) : Sp := fun vs H Q _ => ∃ t x, vs = [x] ∧ IsTm H t x ∧ t.depth ≤ n ∧ ∀ H', Same H H' → Q (.int t.depth) H'
theorem spDepth.i {n : Nat} {H : Hp} {t : Tm} {x : V} {Q : VK} {E : XK} (h : IsTm H t x) (hd : t.depth ≤ n) (q : ∀ H', Same H H' → Q (.int t.depth) H') : spDepth n [x] H Q E := by
  unfold spDepth
  exact ⟨t, x, rfl, h, hd, q⟩
theorem depths_take {ts : List Tm} {i : Nat} {t : Tm} (h : ts[i]? = some t) : Tm.depths (ts.take (i + 1)) = max (Tm.depths (ts.take i)) t.depth := by
  induction ts generalizing i with
  | nil => simp at h
  | cons u ts ih =>
    cases i with
    | zero => simp at h; subst h; simp [Tm.depths]
    | succ i =>
      have q := ih (i := i) (by simpa using h)
      simp only [List.take_succ_cons, Tm.depths, q]
      omega
theorem c_depth (T : TopF K mg) : ∀ n : Nat, Cal P w K mg base CX0 (n + 1) "depth" ["term"] (spDepth n)
  | 0 => n_depth T (fun vs H Q E h => by
    unfold spDepth at h
    obtain ⟨t, x, _, _, hd, _⟩ := h
    have := t.depth_pos
    omega)
  | n + 1 => by
    have ih := c_depth T n
    refine k_depth T (fun vs H Q E h => by unfold spDepth at h; obtain ⟨t, x, rfl, _⟩ := h; rfl) (fun cdv A outer s H vs Q E hr h => ?_)
    unfold spDepth at h
    obtain ⟨t, x, rfl, ht, hd, q⟩ := h
    refine ⟨_, pss_cons (ps_if (pt_val (pe_cal (c_isV T) (hr.mono (by omega)) rfl pass0 (pa_cons (pv 0) pa_nil))) (pss_one (ps_ret pe_int)) pss_nil)
      (pss_cons (ps_set (i := 1) sc_depth.nd rfl (Or.inl rfl) pe_int)
      (pss_cons (ps_for PassesOwn.never rfl (pi_tup (pe_slice sl_tupA (pv 0) (po_some pe_int) po_none)) (pg_name (i := 2) sc_depth.nd rfl (Or.inl rfl))
        (pss_one (ps_set (i := 1) sc_depth.nd rfl (Or.inl rfl) (pe_callB (call_max2 rfl) rfl T.z_max (by decide +kernel) (pa_cons (pv 1) (pa_cons (pe_cal ih hr rfl pass0 (pa_cons (pv 2) pa_nil)) pa_nil))))))
      (pss_one (ps_ret (pe_op op_add pe_int (pv 1)))))), ?_⟩
    refine rd_when1 (rd_B (rd_call1 (rd_var rfl (isV_tm ht (fun m e1 e2 => ⟨_, rfl, iteT ?_⟩) (fun f as p us e1 e2 hp hs => ⟨_, rfl, iteF ?_⟩)))))
    · subst e1
      exact q H (Same.refl H)
    · subst e1
      subst e2
      refine rd_let (rd_c (rd_seq (rd_for (rd_args rfl hp fun a ha => ?_))))
      have s0 : Same H (upd H a (.tup us)) := Same.new ha _
      refine for_tup (K := K) (a := a) (xs := us) (fun i σ H' => ∃ z, σ = [some (.ref p), some (.int ((Tm.depths (as.take i) : Nat) : Int)), z] ∧ Same (upd H a (.tup us)) H') ⟨_, rfl, Same.refl _⟩ (fun i σ H' _ hh => ?_) ?_ ?_
      · obtain ⟨z, rfl, s1⟩ := hh
        exact sqt (s1 _ _ upd_same)
      · rintro i y σ H' hi ⟨z, rfl, s1⟩
        obtain ⟨u, hu, hy⟩ := hs.get hi
        have hde := depth_arg hu
        have hd' : 1 + Tm.depths as ≤ n + 1 := hd
        refine rd_name (rd_set (rd_B2 (rd_var rfl (rd_call1 (rd_var rfl (spDepth.i (hy.mono (Tups.same (s0.trans s1))) (by omega) fun H'' s2 => ⟨_, _, rfl, some y, ?_, s1.trans s2⟩))))))
        rw [depths_take hu]
        have e : (if (u.depth : Int) > ((Tm.depths (as.take i) : Nat) : Int) then (u.depth : Int) else ((Tm.depths (as.take i) : Nat) : Int)) = ((max (Tm.depths (as.take i)) u.depth : Nat) : Int) := by
          split <;> omega
        rw [← e]
        rfl
      · rintro σ H' ⟨z, rfl, s1⟩
        rw [hs.length, List.take_length]
        refine rd_ret (rd_op (rd_c (rd_var rfl ⟨_, _, rfl, rfl, ?_⟩)))
        have e : (1 : Int) + ((Tm.depths as : Nat) : Int) = (((Tm.a f as).depth : Nat) : Int) := by show _ = ((1 + Tm.depths as : Nat) : Int); omega
        have z := q _ (s0.trans s1)
        rw [← e] at z
        exact z
/-! ### symbols, variables -/
mutual
def Tm.syms : Tm → List Key
  | .v n => [.inl n]
  | .a f as => .inr f :: Tm.symss as
def Tm.symss : List Tm → List Key
  | [] => []
  | t :: r => t.syms ++ Tm.symss r
end
mutual
theorem Tm.syms_length : ∀ t : Tm, t.syms.length = t.size
  | .v n => rfl
  | .a f as => by
    show (Tm.symss as).length + 1 = 1 + Tm.sizes as
    rw [Tm.symss_length as]
    omega
theorem Tm.symss_length : ∀ ts : List Tm, (Tm.symss ts).length = Tm.sizes ts
  | [] => rfl
  | t :: r => by
    show (t.syms ++ Tm.symss r).length = t.size + Tm.sizes r
    rw [List.length_append, Tm.syms_length t, Tm.symss_length r]
end
theorem symss_take {ts : List Tm} {i : Nat} {t : Tm} (h : ts[i]? = some t) : Tm.symss (ts.take (i + 1)) = Tm.symss (ts.take i) ++ t.syms := by
  induction ts generalizing i with
  | nil => simp at h
  | cons u ts ih =>
    cases i with
    | zero => simp at h; subst h; simp [Tm.symss]
    | succ i =>
      have q := ih (i := i) (by simpa using h)
      simp only [List.take_succ_cons, Tm.symss, q, List.append_assoc]
theorem size_arg {ts : List Tm} {i : Nat} {t : Tm} (h : ts[i]? = some t) : t.size ≤ Tm.sizes ts := by
  induction ts generalizing i with
  | nil => simp at h
  | cons u ts ih =>
    cases i with
    | zero => simp at h; subst h; simp only [Tm.sizes]; omega
    | succ i =>
      have q := ih (i := i) (by simpa using h)
      simp only [Tm.sizes]
      omega
theorem sizes_le : ∀ (ts : List Tm) (n : Nat), Tm.sizes (ts.take n) ≤ Tm.sizes ts
  | [], n => by simp [Tm.sizes]
  | t :: r, 0 => by simp [Tm.sizes]
  | t :: r, n + 1 => by
    have := sizes_le r n
    simp only [List.take_succ_cons, Tm.sizes]
    omega
@[irreducible] def spSyms (n : Nat) : Sp := fun vs H Q _ => ∃ t x, vs = [x] ∧ IsTm H t x ∧ t.depth ≤ n ∧ t.size ≤ 100000 ∧ ∀ p H', H p = none → Same H H' → H' p = some (.lst (t.syms.map kV)) → Q (.ref p) H'
theorem spSyms.i {n : Nat} {H : Hp} {t : Tm} {x : V} {Q : VK} {E : XK} (h : IsTm H t x) (hd : t.depth ≤ n) (hz : t.size ≤ 100000) (q : ∀ p H', H p = none → Same H H' → H' p = some (.lst (t.syms.map kV)) → Q (.ref p) H') : spSyms n [x] H Q E := by
  unfold spSyms
  exact ⟨t, x, rfl, h, hd, hz, q⟩
theorem free_back {H H' : Hp} {p : Addr} (s : Same H H') (h : H' p = none) : H p = none := s.free h
theorem c_symbols (T : TopF K mg) : ∀ n : Nat, Cal P w K mg base CX0 (n + 1) "symbols" ["term"] (spSyms n)
  | 0 => n_symbols T (fun vs H Q E h => by
    unfold spSyms at h
    obtain ⟨t, x, _, _, hd, _⟩ := h
    have := t.depth_pos
    omega)
  | n + 1 => by
    have ih := c_symbols T n
    refine k_symbols T (fun vs H Q E h => by unfold spSyms at h; obtain ⟨t, x, rfl, _⟩ := h; rfl) (fun cdv A outer s H vs Q E hr h => ?_)
    unfold spSyms at h
    obtain ⟨t, x, rfl, ht, hd, hz, q⟩ := h
    refine ⟨_, pss_cons (ps_if (pt_val (pe_cal (c_isV T) (hr.mono (by omega)) rfl pass0 (pa_cons (pv 0) pa_nil))) (pss_one (ps_ret (pe_lst (pa_cons (pv 0) pa_nil)))) pss_nil)
      (pss_cons (ps_set (i := 1) sc_symbols.nd rfl (Or.inl rfl) (pe_lst (pa_cons (pe_ix ix_tup (pv 0) pe_int (fun _ _ => rfl)) pa_nil)))
      (pss_cons (ps_for PassesOwn.never rfl (pi_tup (pe_slice sl_tupA (pv 0) (po_some pe_int) po_none)) (pg_name (i := 2) sc_symbols.nd rfl (Or.inl rfl))
        (pss_one (ps_expr (pe_bm PySem.F.plainAttrs_list PySem.F.slot_list_extend PySem.F.type_list_extend mt_extend (pv 1) (pa_cons (pe_cal ih hr rfl pass0 (pa_cons (pv 2) pa_nil)) pa_nil)))))
      (pss_one (ps_ret (pv 1))))), ?_⟩
    refine rd_when1 (rd_B (rd_call1 (rd_var rfl (isV_tm ht (fun m e1 e2 => ⟨_, rfl, iteT ?_⟩) (fun f as p us e1 e2 hp hs => ⟨_, rfl, iteF ?_⟩)))))
    · subst e1
      subst e2
      exact rd_ret ⟨_, rfl, (by show 1 ≤ sizeLine; decide), fun l hl => q l _ hl (Same.new hl _) upd_same⟩
    · subst e1
      subst e2
      refine rd_let ?_
      refine ⟨_, rfl, p, _, 0, .str f, rfl, rfl, sqt hp, at0, (by show 1 ≤ sizeLine; decide), fun l hl => ?_⟩
      have s0 : Same H (upd H l (.lst [.str f])) := Same.new hl _
      refine rd_seq (rd_for (rd_args rfl (s0 _ _ hp) fun a ha => ?_))
      have hal : a ≠ l := fun z => by rw [z, upd_same] at ha; cases ha
      have aH : H a = none := s0.free ha
      refine for_tup (K := K) (a := a) (xs := us) (fun i σ H' => ∃ z, σ = [some (.ref p), some (.ref l), z] ∧ Same H H' ∧ H' a = some (.tup us) ∧ H' l = some (.lst (((Sum.inr f : Key) :: Tm.symss (as.take i)).map kV)))
        ⟨_, rfl, Same.mut s0 aH, upd_same, by rw [upd_ne (Ne.symm hal), upd_same]; rfl⟩ (fun i σ H' _ hh => ?_) ?_ ?_
      · obtain ⟨z, rfl, s1, s2, s3⟩ := hh
        exact sqt s2
      · rintro i y σ H' hi ⟨z, rfl, s1, s2, s3⟩
        obtain ⟨u, hu, hy⟩ := hs.get hi
        have hde := depth_arg hu
        have hsz := size_arg hu
        have hd' : 1 + Tm.depths as ≤ n + 1 := hd
        have hz' : 1 + Tm.sizes as ≤ 100000 := hz
        refine rd_name (rd_drop ?_)
        refine ⟨_, rfl, .inl ⟨rfl, _, sql s3⟩, rd_call1 (rd_var rfl (spSyms.i (hy.mono (Tups.same s1)) (by omega) (by omega) fun b H'' hb s4 hb2 => ⟨l, b, _, _, rfl, rfl, s4 _ _ s3, hb2, ?_, some y, rfl, Same.mut (s1.trans s4) hl, ?_, ?_⟩))⟩
        · have hi' : i < as.length := (List.getElem?_eq_some_iff.mp hu).1
          have e := symss_take hu
          have l1 := Tm.symss_length (as.take (i + 1))
          have l2 : Tm.sizes (as.take (i + 1)) ≤ Tm.sizes as := sizes_le _ _
          rw [e, List.length_append] at l1
          rw [List.length_map, List.length_map, List.length_cons, sizeLine_eq]
          omega
        · rw [upd_ne hal]
          exact s4 _ _ s2
        · rw [upd_same, symss_take hu, ← List.map_append]
          rfl
      · rintro σ H' ⟨z, rfl, s1, s2, s3⟩
        rw [hs.length, List.take_length] at s3
        exact rd_ret (rd_var rfl (q l H' hl s1 s3))
end
end K65
namespace K65
open PySem PySem.Spec PyProof.Rows L2
/-! ### the variables of a term -/
def addK (acc : List Int) : Key → List Int
  | .inl n => if n ∈ acc then acc else acc ++ [n]
  | .inr _ => acc
def Tm.vars (t : Tm) : List Int := t.syms.foldl addK []
theorem addK_mem {acc : List Int} {k : Key} {n : Int} : n ∈ addK acc k ↔ n ∈ acc ∨ k = .inl n := by
  cases k with
  | inl m =>
    show n ∈ (if m ∈ acc then acc else acc ++ [m]) ↔ _
    split
    · rename_i h
      constructor
      · exact Or.inl
      · rintro (q | q)
        · exact q
        · cases q; exact h
    · rw [List.mem_append, List.mem_singleton]
      constructor
      · rintro (q | q)
        · exact .inl q
        · exact .inr (by rw [q])
      · rintro (q | q)
        · exact .inl q
        · exact .inr (Sum.inl.inj q).symm
  | inr s =>
    show n ∈ acc ↔ _
    constructor
    · exact Or.inl
    · rintro (q | q)
      · exact q
      · cases q
theorem foldK_mem : ∀ {ks : List Key} {acc : List Int} {n : Int}, n ∈ ks.foldl addK acc ↔ n ∈ acc ∨ (.inl n : Key) ∈ ks
  | [], acc, n => by simp
  | k :: ks, acc, n => by
    rw [List.foldl_cons, foldK_mem, addK_mem, List.mem_cons]
    constructor
    · rintro ((q | q) | q)
      · exact .inl q
      · exact .inr (.inl q.symm)
      · exact .inr (.inr q)
    · rintro (q | q | q)
      · exact .inl (.inl q)
      · exact .inl (.inr q.symm)
      · exact .inr q
theorem addK_nd {acc : List Int} {k : Key} (h : acc.Nodup) : (addK acc k).Nodup := by
  cases k with
  | inl m =>
    show (if m ∈ acc then acc else acc ++ [m]).Nodup
    split
    · exact h
    · rename_i q
      exact nd_snoc h q
  | inr s => exact h
theorem foldK_nd : ∀ {ks : List Key} {acc : List Int}, acc.Nodup → (ks.foldl addK acc).Nodup
  | [], _, h => h
  | k :: ks, _, h => foldK_nd (ks := ks) (addK_nd (k := k) h)
theorem foldK_len : ∀ {ks : List Key} {acc : List Int}, (ks.foldl addK acc).length ≤ acc.length + ks.length
  | [], _ => Nat.le_refl _
  | k :: ks, acc => by
    have q := foldK_len (ks := ks) (acc := addK acc k)
    have l : (addK acc k).length ≤ acc.length + 1 := by
      cases k with
      | inl m =>
        show (if m ∈ acc then acc else acc ++ [m]).length ≤ _
        split
        · omega
        · rw [List.length_append]; exact Nat.le_refl _
      | inr s => show acc.length ≤ _; omega
    rw [List.foldl_cons, List.length_cons]
    omega
theorem Tm.vars_nd (t : Tm) : t.vars.Nodup := foldK_nd List.nodup_nil
theorem Tm.mem_vars {t : Tm} {n : Int} : n ∈ t.vars ↔ (.inl n : Key) ∈ t.syms := by
  unfold Tm.vars
  rw [foldK_mem]
  simp
theorem Tm.vars_len (t : Tm) : t.vars.length ≤ t.size := by
  have q := foldK_len (ks := t.syms) (acc := [])
  rw [Tm.syms_length] at q
  simpa [Tm.vars] using q
theorem inV_ints {n : Int} : ∀ {acc : List Int}, inV (.int n) (acc.map V.int) = decide (n ∈ acc)
  | [] => by simp [inV]
  | m :: acc => by
    have ih := inV_ints (n := n) (acc := acc)
    unfold inV at ih ⊢
    rw [List.map_cons, List.any_cons, ih]
    have e : eqV (.int m) (.int n) = decide (m = n) := by
      first | rfl | (show (m == n) = decide (m = n); exact beq_eq_decide ..)
    rw [e]
    by_cases h : m = n
    · subst h; simp
    · have h' : ¬ n = m := fun q => h q.symm
      simp [h, h']
theorem flat_ints : ∀ {acc : List Int}, (acc.map V.int).all flatV = true
  | [] => rfl
  | _ :: acc => by
    rw [List.map_cons, List.all_cons, flat_ints (acc := acc)]
    rfl
/-- n not in ns, of ints -/
def rNiI (K : PySem.W.Frag) : R2 := fun x y H Q => ∃ (p : Addr) (ns : List Int) (n : Int), x = .int n ∧ y = .ref p ∧ SqL K H p (ns.map V.int) ∧ Q (.bl (!decide (n ∈ ns))) H
theorem op_niI {X : Cx} : OpR X (compareOp .NotIn) (rNiI X.K) := fun pins s σ H x y v u Q I rx ry h => by
  obtain ⟨p, ns, n, rfl, rfl, hs, q⟩ := h
  exact op_notIn_seq pins s σ H _ _ v u Q I rx ry ⟨p, _, rfl, .inl hs, rfl, flat_ints, by rw [if_pos rfl, inV_ints]; exact q⟩
section
variable {P : Program} {w : World} {K : PySem.W.Frag} {mg : Str → Option Value} {base : Heap}
theorem isV_key {H : Hp} {k : Key} {Q : VK} {E : XK} (h : Q (.bl k.isLeft) H) : spIsV [kV k] H Q E := by
  unfold spIsV
  cases k with
  | inl n => exact ⟨_, rfl, .inl ⟨n, rfl, h⟩⟩
  | inr s => exact ⟨_, rfl, .inr (.inr ⟨s, rfl, h⟩)⟩
@[irreducible] def spVars (n : Nat) : Sp := fun vs H Q _ => ∃ t x, vs = [x] ∧ IsTm H t x ∧ t.depth ≤ n ∧ t.size ≤ 100000 ∧ ∀ p H', H p = none → Same H H' → H' p = some (.lst (t.vars.map V.int)) → Q (.ref p) H'
theorem spVars.i {n : Nat} {H : Hp} {t : Tm} {x : V} {Q : VK} {E : XK} (h : IsTm H t x) (hd : t.depth ≤ n) (hz : t.size ≤ 100000) (q : ∀ p H', H p = none → Same H H' → H' p = some (.lst (t.vars.map V.int)) → Q (.ref p) H') : spVars n [x] H Q E := by
  unfold spVars
  exact ⟨t, x, rfl, h, hd, hz, q⟩
theorem take_succ' {α : Type} {l : List α} {i : Nat} {x : α} (h : l[i]? = some x) : l.take (i + 1) = l.take i ++ [x] := by
  rw [List.take_add_one, h]; rfl
theorem c_variables (T : TopF K mg) (n : Nat) : Cal P w K mg base CX0 (n + 2) "variables" ["term"] (spVars n) := by
  refine k_variables T (fun vs H Q E h => by unfold spVars at h; obtain ⟨t, x, rfl, _⟩ := h; rfl) (fun cdv A outer s H vs Q E hr h => ?_)
  unfold spVars at h
  obtain ⟨t, x, rfl, ht, hd, hz, q⟩ := h
  refine ⟨_, pss_cons (ps_set (i := 1) sc_variables.nd rfl (Or.inl rfl) (pe_lst pa_nil))
    (pss_cons (ps_for PassesOwn.never rfl (pi_list (pe_cal (c_symbols T n) hr rfl pass0 (pa_cons (pv 0) pa_nil))) (pg_name (i := 2) sc_variables.nd rfl (Or.inl rfl))
      (pss_one (ps_if (PW.pt (pw_and (pt_val (pe_cal (c_isV T) (hr.mono (by omega)) rfl pass0 (pa_cons (pv 2) pa_nil))) (pw_and1 (pt_cmpR op_niI (pv 2) (pv 1) (by rfl)))))
        (pss_one (ps_expr (pe_bm PySem.F.plainAttrs_list PySem.F.slot_list_append PySem.F.type_list_append mt_append (pv 1) (pa_cons (pv 2) pa_nil)))) pss_nil)))
    (pss_one (ps_ret (pv 1)))), ?_⟩
  refine rd_let ?_
  refine ⟨Nat.zero_le _, fun l hl => ?_⟩
  have s0 : Same H (upd H l (.lst [])) := Same.new hl _
  refine rd_seq (rd_for ?_)
  refine rd_call1 (rd_var rfl (spSyms.i (ht.mono (Tups.same s0)) hd hz fun a H1 ha s1 h1 => ⟨a, rfl, ⟨_, sql h1⟩, ?_⟩))
  have hal : a ≠ l := fun z => by rw [z, upd_same] at ha; cases ha
  have s01 := s0.trans s1
  refine for_list (K := K) (a := a) (xs := t.syms.map kV) (fun i σ H' => ∃ z, σ = [some x, some (.ref l), z] ∧ Same H H' ∧ H' a = some (.lst (t.syms.map kV)) ∧ H' l = some (.lst (((t.syms.take i).foldl addK []).map V.int)))
    ⟨_, rfl, s01, h1, s1 _ _ upd_same⟩ (fun i σ H' _ hh => ?_) ?_ ?_
  · obtain ⟨z, rfl, s2, s3, s4⟩ := hh
    exact sql s3
  · rintro i y σ H' hi ⟨z, rfl, s2, s3, s4⟩
    obtain ⟨k, hk, rfl⟩ : ∃ k, t.syms[i]? = some k ∧ y = kV k := by
      rw [List.getElem?_map] at hi
      cases e : t.syms[i]? with
      | none => rw [e] at hi; cases hi
      | some k => rw [e] at hi; exact ⟨k, rfl, (Option.some.inj hi).symm⟩
    have tk := take_succ' hk
    have hlen : ((t.syms.take i).foldl addK []).length < 100000 := by
      have q1 := foldK_len (ks := t.syms.take i) (acc := [])
      have q2 := Tm.syms_length t
      have q3 := (List.getElem?_eq_some_iff.mp hk).1
      rw [List.length_take] at q1
      simp only [List.length_nil] at q1
      omega
    refine rd_name (rd_if ?_)
    refine rd_B (rd_call1 (rd_var rfl (isV_key ⟨_, rfl, ?_⟩)))
    cases k with
    | inr s' =>
      refine iteF (iteF (rd_next ⟨_, rfl, s2, s3, ?_⟩))
      rw [tk, List.foldl_append]
      exact s4
    | inl m =>
      refine iteT ⟨_, rfl, _, rfl, l, _, m, rfl, rfl, sql s4, _, rfl, ?_⟩
      by_cases hm : m ∈ (t.syms.take i).foldl addK []
      · rw [decide_eq_true hm]
        refine iteF (rd_next ⟨_, rfl, s2, s3, ?_⟩)
        rw [tk, List.foldl_append]
        show H' l = some (.lst ((if m ∈ (t.syms.take i).foldl addK [] then _ else _ : List Int).map V.int))
        rw [if_pos hm]
        exact s4
      · rw [decide_eq_false hm]
        refine iteT (rd_drop ?_)
        refine ⟨_, rfl, .inl ⟨rfl, _, sql s4⟩, _, rfl, l, _, _, rfl, rfl, s4, ?_, _, rfl, Same.mut s2 hl, ?_, ?_⟩
        · rw [List.length_map, sizeLine_eq]; omega
        · rw [upd_ne hal]; exact s3
        · rw [upd_same, tk, List.foldl_append]
          show _ = some (HO.lst ((if m ∈ (t.syms.take i).foldl addK [] then _ else _ : List Int).map V.int))
          rw [if_neg hm, List.map_append]
          rfl
  · rintro σ H' ⟨z, rfl, s2, s3, s4⟩
    rw [List.length_map, List.take_length] at s4
    exact rd_ret (rd_var rfl (q l H' hl s2 s4))
end
end K65
namespace K65
open PySem PySem.Spec PyProof.Rows L2
/-! ### subterms by position -/
def Tm.arg : Tm → Nat → Option Tm
  | .v _, _ => none
  | .a _ _, 0 => none
  | .a _ as, k + 1 => as[k]?
def Tm.sub : Tm → List Nat → Option Tm
  | t, [] => some t
  | t, k :: r => (t.arg k).bind (·.sub r)
def Tm.repl : Tm → List Nat → Tm → Tm
  | _, [], u => u
  | .a f as, k :: r, u => .a f (as.modify (k - 1) fun t => t.repl r u)
  | .v n, _ :: _, _ => .v n
theorem Tm.sub_app : ∀ (p : List Nat) (t : Tm) (q : List Nat), t.sub (p ++ q) = (t.sub p).bind (·.sub q)
  | [], t, q => rfl
  | k :: r, t, q => by
    show (t.arg k).bind (fun u => u.sub (r ++ q)) = ((t.arg k).bind (fun u => u.sub r)).bind _
    cases e : t.arg k with
    | none => rfl
    | some u => exact Tm.sub_app r u q
theorem arg_at {H : Hp} {t u : Tm} {x : V} {k : Nat} (h : IsTm H t x) (e : t.arg k = some u) : ∃ (f : Str) (as : List Tm) (p : Addr) (vs : List V) (y : V), t = .a f as ∧ x = .ref p ∧ H p = some (.tup (.str f :: vs)) ∧ IsTms H as vs ∧ 1 ≤ k ∧ as[k - 1]? = some u ∧ vs[k - 1]? = some y ∧ IsTm H u y := by
  cases t with
  | v n => cases e
  | a f as =>
    cases k with
    | zero => cases e
    | succ k =>
      obtain ⟨p, vs, ex, hp, hs⟩ := h
      have e' : as[k]? = some u := e
      obtain ⟨y, hy, iy⟩ := hs.nth e'
      exact ⟨f, as, p, vs, y, rfl, ex, hp, hs, by omega, e', hy, iy⟩
theorem arg_depth {t u : Tm} {k : Nat} (e : t.arg k = some u) : u.depth + 1 ≤ t.depth := by
  cases t with
  | v n => cases e
  | a f as =>
    cases k with
    | zero => cases e
    | succ k =>
      have := depth_arg (show as[k]? = some u from e)
      show u.depth + 1 ≤ 1 + Tm.depths as
      omega
theorem arg_size {t u : Tm} {k : Nat} (e : t.arg k = some u) : u.size + 1 ≤ t.size := by
  cases t with
  | v n => cases e
  | a f as =>
    cases k with
    | zero => cases e
    | succ k =>
      have := size_arg (show as[k]? = some u from e)
      show u.size + 1 ≤ 1 + Tm.sizes as
      omega
theorem sub_depth : ∀ {p : List Nat} {t u : Tm}, t.sub p = some u → u.depth + p.length ≤ t.depth
  | [], t, u, e => by cases e; exact Nat.le_refl _
  | k :: r, t, u, e => by
    have e' : (t.arg k).bind (·.sub r) = some u := e
    cases q : t.arg k with
    | none => rw [q] at e'; cases e'
    | some v =>
      rw [q] at e'
      have h1 := sub_depth (p := r) (t := v) (u := u) e'
      have h2 := arg_depth q
      rw [List.length_cons]
      omega
theorem sub_size : ∀ {p : List Nat} {t u : Tm}, t.sub p = some u → u.size ≤ t.size
  | [], t, u, e => by cases e; exact Nat.le_refl _
  | k :: r, t, u, e => by
    have e' : (t.arg k).bind (·.sub r) = some u := e
    cases q : t.arg k with
    | none => rw [q] at e'; cases e'
    | some v =>
      rw [q] at e'
      have h1 := sub_size (p := r) (t := v) (u := u) e'
      have h2 := arg_size q
      omega
/-- a position as it lies -/
abbrev pI : Nat → V := fun k => .int (k : Int)
theorem args_le (ts : List Tm) : ts.length ≤ Tm.sizes ts := by
  induction ts with
  | nil => exact Nat.le_refl _
  | cons t r ih =>
    have h : 1 ≤ t.size := by cases t <;> simp [Tm.size] <;> omega
    simp only [Tm.sizes, List.length_cons]
    omega
theorem cut_hi {xs : List V} {k : Nat} (h : k ≤ xs.length) : cutV xs none (some (k : Int)) = xs.take k := by
  unfold cutV
  rw [HT.sIx_none, HT.sIx_nat, Nat.min_eq_left h]
  rfl
theorem cut_lo {xs : List V} {k : Nat} (h : k ≤ xs.length) : cutV xs (some (k : Int)) none = xs.drop k := by
  unfold cutV
  rw [HT.sIx_none, HT.sIx_nat, Nat.min_eq_left h]
  exact List.take_of_length_le (by rw [List.length_drop]; exact Nat.le_refl _)
section
variable {K : PySem.W.Frag} {σ : L2.St} {H : Hp} {Q : VK} {i j : Nat} {p : Addr} {xs : List V} {y : V}
/-- t[1:] -/
theorem rd_tail (hi : σ[i]? = some (some (.ref p))) (hp : H p = some (.tup (y :: xs))) (q : ∀ r, H r = none → Q (.ref r) (upd H r (.tup xs))) : tSl (rSlA K) (tVar i) (tPart (tC (.int 1))) tNoPart σ H Q := by
  refine ⟨_, hi, 1, rfl, p, _, rfl, sqt hp, fun z => ?_, fun _ r hr => ?_⟩
  · exact absurd (show HT.sIx (y :: xs).length 0 (some 1) = 0 from z.1) (by simp [HT.sIx])
  · rw [cut1]; exact q r hr
/-- t[:k] -/
theorem rd_head {k : Nat} (hi : σ[i]? = some (some (.ref p))) (hj : σ[j]? = some (some (pI k))) (hp : H p = some (.tup xs)) (hk : k < xs.length) (q : ∀ r, H r = none → Q (.ref r) (upd H r (.tup (xs.take k)))) : tSl (rSlA K) (tVar i) tNoPart (tPart (tVar j)) σ H Q := by
  refine ⟨_, hi, _, hj, k, rfl, p, _, rfl, sqt hp, fun z => ?_, fun _ r hr => ?_⟩
  · have z2 := z.2
    rw [HT.sIx_nat, Nat.min_eq_left (by omega)] at z2
    omega
  · rw [cut_hi (by omega)]; exact q r hr
/-- t[k + 1:] -/
theorem rd_rest {k : Nat} (hi : σ[i]? = some (some (.ref p))) (hj : σ[j]? = some (some (pI k))) (hp : H p = some (.tup xs)) (hk : k < xs.length) (q : ∀ r, H r = none → Q (.ref r) (upd H r (.tup (xs.drop (k + 1))))) :
    tSl (rSlA K) (tVar i) (tPart (tOp (rI0 fun i j => .int (i + j)) (tVar j) (tC (.int 1)))) tNoPart σ H Q := by
  refine ⟨_, hi, _, hj, _, _, rfl, rfl, ((k + 1 : Nat) : Int), rfl, p, _, rfl, sqt hp, fun z => ?_, fun _ r hr => ?_⟩
  · have z2 := z.1
    rw [HT.sIx_nat] at z2
    omega
  · rw [cut_lo (by omega)]; exact q r hr
end
section
variable {P : Program} {w : World} {K : PySem.W.Frag} {mg : Str → Option Value} {base : Heap}
/-! ### has_argument -/
@[irreducible] def spHas : Sp := fun vs H Q _ => ∃ t x k, vs = [x, pI k] ∧ IsTm H t x ∧ Q (.bl (t.arg k).isSome) H
theorem spHas.i {H : Hp} {t : Tm} {x : V} {k : Nat} {Q : VK} {E : XK} (h : IsTm H t x) (q : Q (.bl (t.arg k).isSome) H) : spHas [x, pI k] H Q E := by
  unfold spHas
  exact ⟨t, x, k, rfl, h, q⟩
theorem c_has (T : TopF K mg) : Cal P w K mg base CX0 2 "has_argument" ["term", "k"] spHas := by
  refine k_has_argument T (fun vs H Q E h => by unfold spHas at h; obtain ⟨t, x, k, rfl, _⟩ := h; rfl) (fun cdv A outer s H vs Q E hr h => ?_)
  unfold spHas at h
  obtain ⟨t, x, k, rfl, ht, q⟩ := h
  refine ⟨_, pss_one (ps_ret (pe_and (pe_not (pe_cal (c_isV T) hr rfl pass0 (pa_cons (pv 0) pa_nil))) (pe_one (pe_chain op_le op_lt pe_int (pv 1) (pe_callB call_len rfl T.z_len (by decide +kernel) (pa_cons (pv 0) pa_nil)))))), ?_⟩
  refine rd_ret ?_
  show tNotV _ _ _ _
  refine rd_call1 (rd_var rfl (isV_tm ht (fun m e1 e2 => ⟨_, rfl, _, rfl, iteF ?_⟩) (fun f as p us e1 e2 hp hs => ⟨_, rfl, _, rfl, iteT ?_⟩)))
  · subst e1
    exact q
  · subst e1
    subst e2
    refine ⟨_, rfl, _, _, rfl, rfl, _, rfl, ?_⟩
    have hl := hs.length
    cases k with
    | zero => exact q
    | succ k =>
      rw [decide_eq_true (show (1 : Int) ≤ ((k + 1 : Nat) : Int) by omega)]
      refine iteT ⟨_, rfl, _, _, rfl, .inr ⟨_, sqt hp, rfl⟩, _, _, rfl, rfl, ?_⟩
      have e : decide (((k + 1 : Nat) : Int) < (((V.str f :: us).length : Nat) : Int)) = ((Tm.a f as).arg (k + 1)).isSome := by
        show _ = (as[k]?).isSome
        rw [List.length_cons, hl]
        by_cases h : k < as.length
        · rw [List.getElem?_eq_getElem h, decide_eq_true (by omega)]; rfl
        · rw [List.getElem?_eq_none (by omega), decide_eq_false (by omega)]; rfl
      rw [← e] at q
      exact q
/-! ### subterm -/
/-- what is known of NoPosition, the class at C -/
structure NoP (K : PySem.W.Frag) (mg : Str → Option Value) (C : Addr) : Prop where
  gC : mg "NoPosition" = some (.ref C)
  ex : PySem.W.excIn K C He.veBase "ValueError.__new__" = true
  kp : PySem.W.keepIn K (.ref C) = true
  sb : PySem.W.subIn K (.ref C) (.type "BaseException") = some true
  ty : PySem.W.typeIn K (.ref C) = some (.type "type")
  te : PySem.W.exmOne K (.ref C) (.ref C) = some true
theorem pmk_no {X : Cx} {C : Addr} {p pos : Pos} (N : NoP X.K X.mg C) (hg : Gl X "NoPosition" := by rfl) : L2N.PMk X (.Call (.Name "NoPosition" p) [] [] pos) (fun _ H Q => Q (.ref C) none H) := by
  intro pins s σ H Q I h
  refine wpAny_Call_Name_kw (ld_glob I hg N.gC ?_)
  refine PySem.W.callWith_K0 I.kIn N.kp ?_
  obtain ⟨bm, N', nm, qn, bs, hdct, sn, sub, ab, col, dd, k0, k1, k2, k3, k5, mN, hC, hN, hni, T⟩ := exc_obj I.kIn N.ex
  refine wpAny_call_exc_subT F.excBase_ValueError T hC hN hni (fun h' e hm => ?_) (Nat.zero_le _)
  exact L2N.mk_of I hm (raises_own N.sb N.ty) h (I.hok.gone hm.new)
@[irreducible] def spSub (C : Addr) : Sp := fun vs H Q E => ∃ t x p pos, vs = [x, .ref p] ∧ IsTm H t x ∧ H p = some (.tup (pos.map pI)) ∧ (∀ u y, t.sub pos = some u → IsTm H u y → Q y H) ∧ (t.sub pos = none → E (.ref C) none H)
theorem spSub.i {C : Addr} {H : Hp} {t : Tm} {x : V} {p : Addr} {pos : List Nat} {Q : VK} {E : XK} (h : IsTm H t x) (hp : H p = some (.tup (pos.map pI))) (q : ∀ u y, t.sub pos = some u → IsTm H u y → Q y H) (e : t.sub pos = none → E (.ref C) none H) : spSub C [x, .ref p] H Q E := by
  unfold spSub
  exact ⟨t, x, p, pos, rfl, h, hp, q, e⟩
theorem c_subterm (T : TopF K mg) {C : Addr} (N : NoP K mg C) : Cal P w K mg base (CX 0 P w) 3 "subterm" ["term", "position"] (spSub C) := by
  refine kx_subterm T (fun vs H Q E h => by unfold spSub at h; obtain ⟨t, x, p, pos, rfl, _⟩ := h; rfl) (fun cdv A outer s H vs Q E hr h => ?_)
  unfold spSub at h
  obtain ⟨t, x, p, pos, rfl, ht, hp, q, e⟩ := h
  have tk := takes_of (n := 0) (X := cxOf (CX 0 P w) P w K mg base ["term", "position", "k"] "subterm" (defScope s_subterm) (He.ga K "subterm") cdv A outer s H E) rfl rfl rfl rfl
  refine ⟨_, pss_cons (ps_for (L2.passes_of rfl) rfl (pi_tup (pv 1)) (pg_name (i := 2) sc_subterm.nd rfl (Or.inl rfl))
      (pss_cons (ps_if (pt_not (pt_val (pe_cal (c_has T) hr rfl pass0 (pa_cons (pv 0) (pa_cons (pv 2) pa_nil))))) (pss_one (ps_raiseK rfl tk (pmk_no N))) pss_nil)
      (pss_one (ps_set (i := 0) sc_subterm.nd rfl (Or.inl rfl) (pe_ix ix_tup (pv 0) (pv 2) (fun _ _ => rfl))))))
    (pss_one (ps_ret (pv 0))), ?_⟩
  refine rd_seq (rd_for ⟨_, rfl, p, rfl, ⟨_, sqt hp⟩, ?_⟩)
  refine for_tup (K := K) (a := p) (xs := pos.map pI) (fun i σ H' => ∃ u y z, σ = [some y, some (.ref p), z] ∧ H' = H ∧ IsTm H u y ∧ t.sub (pos.take i) = some u) ⟨t, x, _, rfl, rfl, ht, rfl⟩ (fun i σ H' _ hh => ?_) ?_ ?_
  · obtain ⟨u, y, z, rfl, rfl, _⟩ := hh
    exact sqt hp
  · rintro i v σ H' hi ⟨u, y, z, rfl, rfl, hu, hs⟩
    obtain ⟨k, hk, rfl⟩ : ∃ k, pos[i]? = some k ∧ v = pI k := by
      rw [List.getElem?_map] at hi
      cases e : pos[i]? with
      | none => rw [e] at hi; cases hi
      | some k => rw [e] at hi; exact ⟨k, rfl, (Option.some.inj hi).symm⟩
    have tk' := take_succ' hk
    have step : t.sub (pos.take (i + 1)) = (u.arg k).bind (·.sub []) := by rw [tk', Tm.sub_app, hs]; rfl
    refine rd_name (rd_when1 (rd_not (rd_B (rd_call2 (rd_var rfl (rd_var rfl (spHas.i hu ⟨_, rfl, ?_⟩)))))))
    cases ea : u.arg k with
    | none =>
      refine iteT ?_
      refine e ?_
      have h1 : pos = pos.take (i + 1) ++ pos.drop (i + 1) := (List.take_append_drop _ _).symm
      rw [h1, Tm.sub_app, step, ea]
      rfl
    | some u' =>
      obtain ⟨f, as, p', us, y', rfl, rfl, hp', hs', h1, h2, h3, h4⟩ := arg_at hu ea
      refine iteF (rd_set ?_)
      refine ⟨_, rfl, _, rfl, p', _, _, y', rfl, rfl, sqt hp', ?_, u', y', _, rfl, rfl, h4, by rw [step, ea]; rfl⟩
      refine atI_nat ?_
      obtain ⟨k, rfl⟩ : ∃ m, k = m + 1 := ⟨k - 1, by omega⟩
      exact h3
  · rintro σ H' ⟨u, y, z, rfl, rfl, hu, hs⟩
    rw [List.length_map, List.take_length] at hs
    exact rd_ret (rd_var rfl (q u y hs hu))
end
end K65
namespace K65
open PySem PySem.Spec PyProof.Rows L2
theorem modify_at {α : Type} {g : α → α} : ∀ {l : List α} {m : Nat} {x : α}, l[m]? = some x → l.modify m g = l.take m ++ [g x] ++ l.drop (m + 1)
  | [], m, x, h => by simp at h
  | a :: l, 0, x, h => by simp at h; subst h; simp
  | a :: l, m + 1, x, h => by
    have q := modify_at (g := g) (l := l) (m := m) (x := x) (by simpa using h)
    simp only [List.modify_succ_cons, q, List.take_succ_cons, List.drop_succ_cons, List.cons_append]
section
variable {P : Program} {w : World} {K : PySem.W.Frag} {mg : Str → Option Value} {base : Heap}
/-! ### replace -/
@[irreducible] def spRepl (n : Nat) : Sp := fun vs H Q _ => ∃ t x p pos u y, vs = [x, .ref p, y] ∧ pos.length < n ∧ t.size ≤ 100000 ∧ IsTm H t x ∧ H p = some (.tup (pos.map pI)) ∧ IsTm H u y ∧ t.sub pos ≠ none ∧ ∀ z H', Same H H' → IsTm H' (t.repl pos u) z → Q z H'
theorem spRepl.i {n : Nat} {H : Hp} {t u : Tm} {x y : V} {p : Addr} {pos : List Nat} {Q : VK} {E : XK} (hn : pos.length < n) (hz : t.size ≤ 100000) (h : IsTm H t x) (hp : H p = some (.tup (pos.map pI))) (hu : IsTm H u y) (hs : t.sub pos ≠ none)
    (q : ∀ z H', Same H H' → IsTm H' (t.repl pos u) z → Q z H') : spRepl n [x, .ref p, y] H Q E := by
  unfold spRepl
  exact ⟨t, x, p, pos, u, y, rfl, hn, hz, h, hp, hu, hs, q⟩
theorem c_replace (T : TopF K mg) : ∀ n : Nat, Cal P w K mg base CX0 (n + 2) "replace" ["term", "position", "new"] (spRepl n)
  | 0 => n_replace T (fun vs H Q E h => by
    unfold spRepl at h
    obtain ⟨t, x, p, pos, u, y, _, hn, _⟩ := h
    omega)
  | n + 1 => by
    have ih := c_replace T n
    refine k_replace T (fun vs H Q E h => by unfold spRepl at h; obtain ⟨t, x, p, pos, u, y, rfl, _⟩ := h; rfl) (fun cdv A outer s H vs Q E hr h => ?_)
    unfold spRepl at h
    obtain ⟨t, x, p, pos, u, y, rfl, hn, hz, ht, hp, hu, hs, q⟩ := h
    refine ⟨_, pss_cons (ps_if (pt_cmpR op_eq (pe_callB call_len rfl T.z_len (by decide +kernel) (pa_cons (pv 1) pa_nil)) pe_int (nomark _)) (pss_one (ps_ret (pv 2))) pss_nil)
      (pss_cons (ps_set (i := 3) sc_replace.nd rfl (Or.inl rfl) (pe_ix ix_tup (pv 1) pe_int (fun _ _ => rfl)))
      (pss_cons (ps_if (pt_not (pt_val (pe_cal (c_has T) (hr.mono (by omega)) rfl pass0 (pa_cons (pv 0) (pa_cons (pv 3) pa_nil))))) (pss_one ps_never) pss_nil)
      (pss_cons (ps_set (i := 4) sc_replace.nd rfl (Or.inl rfl) (pe_cal ih hr rfl pass0 (pa_cons (pe_ix ix_tup (pv 0) (pv 3) (fun _ _ => rfl)) (pa_cons (pe_slice sl_tupA (pv 1) (po_some pe_int) po_none) (pa_cons (pv 2) pa_nil)))))
      (pss_one (ps_ret (pe_op op_catA (pe_op op_catA (pe_slice sl_tupA (pv 0) po_none (po_some (pv 3))) (pe_tup (pa_cons (pv 4) pa_nil))) (pe_slice sl_tupA (pv 0) (po_some (pe_op op_add (pv 3) pe_int)) po_none))))))), ?_⟩
    refine rd_when1 (rd_test (rd_op (rd_B1 (rd_var rfl ⟨_, _, rfl, .inr ⟨_, sqt hp, rfl⟩, ?_⟩))))
    refine ⟨rfl, _, rfl, ?_⟩
    cases pos with
    | nil => exact iteT (rd_ret (rd_var rfl (q y H (Same.refl H) hu)))
    | cons k r =>
      refine iteF (rd_let ?_)
      refine ⟨_, rfl, p, _, 0, pI k, rfl, rfl, sqt hp, at0, ?_⟩
      obtain ⟨u', ea⟩ : ∃ u', t.arg k = some u' := by
        cases e : t.arg k with
        | none => exact absurd (show t.sub (k :: r) = none by show (t.arg k).bind _ = none; rw [e]; rfl) hs
        | some u' => exact ⟨u', rfl⟩
      have hs' : u'.sub r ≠ none := fun z => hs (by show (t.arg k).bind _ = none; rw [ea]; exact z)
      refine rd_when1 (rd_not (rd_B (rd_call2 (rd_var rfl (rd_var rfl (spHas.i ht ⟨_, rfl, ?_⟩))))))
      rw [ea]
      refine iteF (rd_let ?_)
      obtain ⟨f, as, p', us, y', rfl, rfl, hp', his, h1, h2, h3, h4⟩ := arg_at ht ea
      obtain ⟨m, rfl⟩ : ∃ m, k = m + 1 := ⟨k - 1, by omega⟩
      have h2 : as[m]? = some u' := h2
      have h3 : us[m]? = some y' := h3
      have hm : m < us.length := (List.getElem?_eq_some_iff.mp h3).1
      have hlen := his.length
      have hal := args_le as
      have hz' : 1 + Tm.sizes as ≤ 100000 := hz
      have line : ∀ {a b : Nat}, a + b ≤ 200000 → a + b ≤ sizeLine := fun h => by rw [sizeLine_eq]; omega
      refine rd_call3 ⟨_, rfl, _, rfl, p', _, _, y', rfl, rfl, sqt hp', atI_nat (j := m + 1) h3, ?_⟩
      refine rd_tail rfl hp fun a ha => rd_var rfl ?_
      have s0 : Same H (upd H a (.tup (r.map pI))) := Same.new ha _
      have hsz := size_arg h2
      refine spRepl.i (by simpa using hn) (by omega) (h4.mono (Tups.same s0)) upd_same (hu.mono (Tups.same s0)) hs' fun z H1 s1 hz1 => ?_
      have s01 := s0.trans s1
      refine rd_ret (rd_op (rd_op (rd_head rfl rfl (s01 _ _ hp') (show m + 1 < (V.str f :: us).length by simp; exact hm) fun r1 n1 => ?_)))
      refine ⟨_, rfl, (by show 1 ≤ sizeLine; decide), fun r2 n2 => ?_⟩
      have t1 : Same H1 (upd H1 r1 (.tup ((V.str f :: us).take (m + 1)))) := Same.new n1 _
      have t2 := t1.trans (Same.new n2 (.tup [z]))
      refine ⟨r1, r2, (V.str f :: us).take (m + 1), [z], rfl, rfl, sqt (Same.new n2 _ _ _ upd_same), sqt upd_same, line (by rw [List.length_take]; simp; omega), fun e => ?_, fun _ e => ?_, fun _ _ r3 n3 => ?_⟩
      · simp at e
      · cases e
      have t3 := t2.trans (Same.new n3 (.tup ((V.str f :: us).take (m + 1) ++ [z])))
      refine rd_rest rfl rfl (t3 _ _ (s01 _ _ hp')) (show m + 1 < (V.str f :: us).length by simp; exact hm) fun r4 n4 => ?_
      have t4 := t3.trans (Same.new n4 (.tup ((V.str f :: us).drop (m + 1 + 1))))
      have fin : ∀ (b : Addr) (H2 : Hp), Same H1 H2 → H2 b = some (.tup ((V.str f :: us).take (m + 1) ++ [z] ++ (V.str f :: us).drop (m + 1 + 1))) → Q (.ref b) H2 := fun b H2 s2 hb => by
        refine q _ H2 (s01.trans s2) ⟨b, us.take m ++ [z] ++ us.drop (m + 1), rfl, hb, ?_⟩
        show IsTms H2 (as.modify m fun t => t.repl r u) _
        rw [modify_at h2]
        have his2 : IsTms H2 as us := IsTms.mono (Tups.same (s01.trans s2)) his
        exact ((his2.take m).app (IsTms.one (hz1.mono (Tups.same s2)))).app (his2.drop (m + 1))
      refine ⟨r3, r4, _, _, rfl, rfl, sqt (Same.new n4 _ _ _ upd_same), sqt upd_same, line (by rw [List.length_append, List.length_take, List.length_drop]; simp; omega), fun e => ?_, fun _ e => ?_, fun _ _ r5 n5 => ?_⟩
      · simp at e
      · refine fin r3 _ t4 ?_
        rw [e, List.append_nil]
        exact Same.new n4 _ _ _ upd_same
      · exact fin r5 _ (t4.trans (Same.new n5 _)) upd_same
end
end K65
namespace K65
open PySem PySem.Spec PyProof.Rows L2
/-! ### == of terms -/
mutual
def Tm.data : Tm → PyData
  | .v n => .int n
  | .a f as => .tuple (.str f :: Tm.datas as)
def Tm.datas : List Tm → List PyData
  | [] => []
  | t :: r => t.data :: Tm.datas r
end
/-- the texts of a term are texts -/
def Tm.texts (t : Tm) : Prop := ∀ f : Str, (.inr f : Key) ∈ t.syms → PyData.strOk f = true
mutual
theorem Tm.canLay : ∀ t : Tm, (∀ f : Str, (.inr f : Key) ∈ t.syms → PyData.strOk f = true) → t.data.canLay0 = true
  | .v n, _ => rfl
  | .a f as, h => by
    show (PyData.strOk f && PyData.canLayAll0 (Tm.datas as)) = true
    rw [h f (by simp [Tm.syms]), Tm.canLays as fun g hg => h g (by simp [Tm.syms, hg])]
    rfl
theorem Tm.canLays : ∀ ts : List Tm, (∀ f : Str, (.inr f : Key) ∈ Tm.symss ts → PyData.strOk f = true) → PyData.canLayAll0 (Tm.datas ts) = true
  | [], _ => rfl
  | t :: r, h => by
    show (t.data.canLay0 && PyData.canLayAll0 (Tm.datas r)) = true
    rw [Tm.canLay t fun g hg => h g (by simp [Tm.symss, hg]), Tm.canLays r fun g hg => h g (by simp [Tm.symss, hg])]
    rfl
end
mutual
theorem Tm.dataDepth : ∀ t : Tm, t.data.depth ≤ t.depth
  | .v n => Nat.zero_le _
  | .a f as => by
    show max 0 (PyData.depthAll (Tm.datas as)) + 1 ≤ 1 + Tm.depths as
    have := Tm.dataDepths as
    omega
theorem Tm.dataDepths : ∀ ts : List Tm, PyData.depthAll (Tm.datas ts) ≤ Tm.depths ts
  | [] => Nat.le_refl _
  | t :: r => by
    show max t.data.depth (PyData.depthAll (Tm.datas r)) ≤ max t.depth (Tm.depths r)
    have h1 := Tm.dataDepth t
    have h2 := Tm.dataDepths r
    omega
end
mutual
theorem Tm.eqv : ∀ s t : Tm, PyData.eqv s.data t.data = decide (s = t)
  | .v n, .v m => by
    show (n == m) = _
    by_cases h : n = m
    · subst h; simp
    · have h' : ¬ (Tm.v n = Tm.v m) := fun e => h (Tm.v.inj e)
      simp [h, h']
  | .v n, .a g bs => by
    show false = _
    rw [decide_eq_false (fun e => nomatch e)]
  | .a f as, .v m => by
    show false = _
    rw [decide_eq_false (fun e => nomatch e)]
  | .a f as, .a g bs => by
    show ((f == g) && PyData.eqvAll (Tm.datas as) (Tm.datas bs)) = _
    rw [Tm.eqvs as bs]
    by_cases h : f = g
    · subst h
      by_cases h2 : as = bs
      · subst h2; simp
      · have h' : ¬ (Tm.a f as = Tm.a f bs) := fun e => h2 (Tm.a.inj e).2
        simp [h2, h']
    · have h' : ¬ (Tm.a f as = Tm.a g bs) := fun e => h (Tm.a.inj e).1
      simp [h, h']
theorem Tm.eqvs : ∀ ss ts : List Tm, PyData.eqvAll (Tm.datas ss) (Tm.datas ts) = decide (ss = ts)
  | [], [] => rfl
  | [], t :: ts => by
    show false = _
    rw [decide_eq_false (fun e => nomatch e)]
  | s :: ss, [] => by
    show false = _
    rw [decide_eq_false (fun e => nomatch e)]
  | s :: ss, t :: ts => by
    show (PyData.eqv s.data t.data && PyData.eqvAll (Tm.datas ss) (Tm.datas ts)) = _
    rw [Tm.eqv s t, Tm.eqvs ss ts]
    by_cases h : s = t
    · subst h
      by_cases h2 : ss = ts
      · subst h2; simp
      · have h' : ¬ (s :: ss = s :: ts) := fun e => h2 (List.cons.inj e).2
        simp [h2, h']
    · have h' : ¬ (s :: ss = t :: ts) := fun e => h (List.cons.inj e).1
      simp [h, h']
end
mutual
theorem Tm.dp {K : PySem.W.Frag} {H : Hp} : ∀ {t : Tm} {x : V}, IsTm H t x → Dp K H x t.data
  | .v n, x, h => by rw [show x = .int n from h]; exact .int n
  | .a f as, x, h => by
    obtain ⟨p, vs, rfl, hp, hs⟩ := h
    exact .tup (sqt hp) (.cons (.str f) (Tm.dps hs))
theorem Tm.dps {K : PySem.W.Frag} {H : Hp} : ∀ {ts : List Tm} {vs : List V}, IsTms H ts vs → DpAll K H vs (Tm.datas ts)
  | [], vs, h => by rw [show vs = [] from h]; exact .nil
  | t :: ts, vs, h => by
    obtain ⟨x, r, rfl, h1, h2⟩ := h
    exact .cons (Tm.dp h1) (Tm.dps h2)
end
def rEqT : R2 := fun x y H Q => ∃ s t, IsTm H s x ∧ IsTm H t y ∧ s.texts ∧ t.texts ∧ s.depth ≤ 160 ∧ Q (.bl (decide (s = t))) H
def rNeT : R2 := fun x y H Q => ∃ s t, IsTm H s x ∧ IsTm H t y ∧ s.texts ∧ t.texts ∧ s.depth ≤ 160 ∧ Q (.bl (!decide (s = t))) H
section
variable {X : Cx}
theorem op_eqT (hu : X.A.units + 200 < cLine) : OpR X (compareOp .Eq) rEqT := by
  intro pins s σ H x y v u Q I rx ry h
  obtain ⟨a, b, ha, hb, ta, tb, hd, q⟩ := h
  obtain ⟨as, r1⟩ := Dp.reads I a.data x v (Tm.dp ha) rx
  obtain ⟨bs, r2⟩ := Dp.reads I b.data y u (Tm.dp hb) ry
  have := Tm.dataDepth a
  refine SeqAt.compareEq_reads r1 r2 (Tm.canLay a ta) (Tm.canLay b tb) (by omega) ⟨.bl _, H, I, rfl, ?_⟩
  rw [Tm.eqv]
  exact q
theorem op_neT (hu : X.A.units + 200 < cLine) : OpR X (compareOp .NotEq) rNeT := by
  intro pins s σ H x y v u Q I rx ry h
  obtain ⟨a, b, ha, hb, ta, tb, hd, q⟩ := h
  obtain ⟨as, r1⟩ := Dp.reads I a.data x v (Tm.dp ha) rx
  obtain ⟨bs, r2⟩ := Dp.reads I b.data y u (Tm.dp hb) ry
  have := Tm.dataDepth a
  refine SeqAt.compareNe_reads r1 r2 (Tm.canLay a ta) (Tm.canLay b tb) (by omega) ⟨.bl _, H, I, rfl, ?_⟩
  rw [Tm.eqv]
  exact q
theorem hu200 {k : Nat} (hr : Room k X.A) : X.A.units + 200 < cLine := by have := hr.un; omega
end
end K65
namespace K65
open PySem PySem.Spec PyProof.Rows L2
/-! ### substitutions -/
abbrev Sub := List (Int × Tm)
mutual
def Tm.subst (s : Sub) : Tm → Tm
  | .v n => (s.lookup n).getD (.v n)
  | .a f as => .a f (Tm.substs s as)
def Tm.substs (s : Sub) : List Tm → List Tm
  | [] => []
  | t :: r => t.subst s :: Tm.substs s r
end
/-- the pairs of a dict are the substitution's -/
def IsSub (H : Hp) : Sub → List (Key × V) → Prop
  | [], kvs => kvs = []
  | (n, t) :: r, kvs => ∃ x q, kvs = (.inl n, x) :: q ∧ IsTm H t x ∧ IsSub H r q
theorem IsSub.mono {H H' : Hp} (s : Tups H H') : ∀ {b : Sub} {kvs : List (Key × V)}, IsSub H b kvs → IsSub H' b kvs
  | [], _, h => h
  | (n, t) :: r, _, h => by
    obtain ⟨x, q, e, h1, h2⟩ := h
    exact ⟨x, q, e, h1.mono s, IsSub.mono s h2⟩
theorem IsSub.get {H : Hp} {n : Int} : ∀ {b : Sub} {kvs : List (Key × V)}, IsSub H b kvs → (b.lookup n = none ∧ valV kvs (.inl n : Key) = none) ∨ ∃ t x, b.lookup n = some t ∧ valV kvs (.inl n : Key) = some x ∧ IsTm H t x
  | [], kvs, h => .inl ⟨rfl, by rw [show kvs = [] from h]; rfl⟩
  | (m, t) :: r, kvs, h => by
    obtain ⟨x, q, rfl, h1, h2⟩ := h
    by_cases e : n = m
    · subst e
      exact .inr ⟨t, x, by simp [List.lookup], valV_pos rfl, h1⟩
    · have e1 : (n == m) = false := by simpa using e
      have e2 : ¬ (.inl m : Key) = .inl n := fun z => e (Sum.inl.inj z).symm
      rcases IsSub.get (n := n) h2 with ⟨z1, z2⟩ | ⟨t', x', z1, z2, z3⟩
      · exact .inl ⟨by simp [List.lookup, e1, z1], (valV_neg (p := (.inl m, x)) e2).trans z2⟩
      · exact .inr ⟨t', x', by simp [List.lookup, e1, z1], (valV_neg (p := (.inl m, x)) e2).trans z2, z3⟩
theorem IsSub.keys {H : Hp} : ∀ {b : Sub} {kvs : List (Key × V)}, IsSub H b kvs → kvs.map (·.1) = (b.map (·.1)).map Sum.inl
  | [], kvs, h => by rw [show kvs = [] from h]; rfl
  | (m, t) :: r, kvs, h => by
    obtain ⟨x, q, rfl, h1, h2⟩ := h
    rw [List.map_cons, IsSub.keys h2]
    rfl
theorem substs_take {s : Sub} {ts : List Tm} {i : Nat} {t : Tm} (h : ts[i]? = some t) : Tm.substs s (ts.take (i + 1)) = Tm.substs s (ts.take i) ++ [t.subst s] := by
  induction ts generalizing i with
  | nil => simp at h
  | cons u ts ih =>
    cases i with
    | zero => simp at h; subst h; simp [Tm.substs]
    | succ i =>
      have q := ih (i := i) (by simpa using h)
      simp only [List.take_succ_cons, Tm.substs, q, List.cons_append]
theorem substs_len (s : Sub) : ∀ ts : List Tm, (Tm.substs s ts).length = ts.length
  | [] => rfl
  | t :: r => by simp only [Tm.substs, List.length_cons, substs_len s r]
def Tm.wide (t : Tm) : Bool := decide (120 < t.depth) || decide (4000 < t.size)
section
variable {P : Program} {w : World} {K : PySem.W.Frag} {mg : Str → Option Value} {base : Heap}
@[irreducible] def spSubst (n : Nat) : Sp := fun vs H Q _ => ∃ t x s d kvs, vs = [x, .ref d] ∧ t.depth ≤ n ∧ t.size ≤ 100000 ∧ IsTm H t x ∧ H d = some (.dK kvs) ∧ IsSub H s kvs ∧ ∀ z H', Same H H' → IsTm H' (t.subst s) z → Q z H'
theorem spSubst.i {n : Nat} {H : Hp} {t : Tm} {x : V} {s : Sub} {d : Addr} {kvs : List (Key × V)} {Q : VK} {E : XK} (hd : t.depth ≤ n) (hz : t.size ≤ 100000) (h : IsTm H t x) (hk : H d = some (.dK kvs)) (hs : IsSub H s kvs) (q : ∀ z H', Same H H' → IsTm H' (t.subst s) z → Q z H') :
    spSubst n [x, .ref d] H Q E := by
  unfold spSubst
  exact ⟨t, x, s, d, kvs, rfl, hd, hz, h, hk, hs, q⟩
theorem c_substitute (T : TopF K mg) : ∀ n : Nat, Cal P w K mg base CX0 (n + 1) "substitute" ["term", "substitution"] (spSubst n)
  | 0 => n_substitute T (fun vs H Q E h => by
    unfold spSubst at h
    obtain ⟨t, x, s, d, kvs, _, hd, _⟩ := h
    have := t.depth_pos
    omega)
  | n + 1 => by
    have ih := c_substitute T n
    refine k_substitute T (fun vs H Q E h => by unfold spSubst at h; obtain ⟨t, x, s, d, kvs, rfl, _⟩ := h; rfl) (fun cdv A outer s H vs Q E hr h => ?_)
    unfold spSubst at h
    obtain ⟨t, x, b, d, kvs, rfl, hd, hz, ht, hk, hs, q⟩ := h
    refine ⟨_, pss_cons (ps_if (pt_val (pe_cal (c_isV T) (hr.mono (by omega)) rfl pass0 (pa_cons (pv 0) pa_nil))) (pss_one (ps_ret (pe_dget2 (hu_of hr) (pv 1) (pv 0) (pv 0) ⟨rfl, rfl, rfl, rfl⟩))) pss_nil)
      (pss_cons (ps_set (i := 2) sc_substitute.nd rfl (Or.inl rfl) (pe_lst (pa_cons (pe_ix ix_tup (pv 0) pe_int (fun _ _ => rfl)) pa_nil)))
      (pss_cons (ps_for PassesOwn.never rfl (pi_tup (pe_slice sl_tupA (pv 0) (po_some pe_int) po_none)) (pg_name (i := 3) sc_substitute.nd rfl (Or.inl rfl))
        (pss_one (ps_expr (pe_bm PySem.F.plainAttrs_list PySem.F.slot_list_append PySem.F.type_list_append mt_append (pv 2) (pa_cons (pe_cal ih hr rfl pass0 (pa_cons (pv 3) (pa_cons (pv 1) pa_nil))) pa_nil)))))
      (pss_one (ps_ret (pe_callTy call_tuple_of rfl T.z_tuple (by decide +kernel) (pa_cons (pv 2) pa_nil)))))), ?_⟩
    refine rd_when1 (rd_B (rd_call1 (rd_var rfl (isV_tm ht (fun m e1 e2 => ⟨_, rfl, iteT ?_⟩) (fun f as p us e1 e2 hp his => ⟨_, rfl, iteF ?_⟩)))))
    · subst e1
      subst e2
      refine rd_ret ?_
      refine ⟨_, rfl, d, rfl, .inl ⟨kvs, .inl hk⟩, _, rfl, _, rfl, _, DGet.k (k := Sum.inl m) hk, ?_⟩
      rcases hs.get (n := m) with ⟨z1, z2⟩ | ⟨t', x', z1, z2, z3⟩
      · rw [z2]
        refine q _ H (Same.refl H) ?_
        show IsTm H ((b.lookup m).getD (.v m)) _
        rw [z1]
        rfl
      · rw [z2]
        refine q _ H (Same.refl H) ?_
        show IsTm H ((b.lookup m).getD (.v m)) _
        rw [z1]
        exact z3
    · subst e1
      subst e2
      refine rd_let ?_
      refine ⟨_, rfl, p, _, 0, .str f, rfl, rfl, sqt hp, at0, (by show 1 ≤ sizeLine; decide), fun l hl => ?_⟩
      have s0 : Same H (upd H l (.lst [.str f])) := Same.new hl _
      refine rd_seq (rd_for (rd_args rfl (s0 _ _ hp) fun a ha => ?_))
      have hal : a ≠ l := fun z => by rw [z, upd_same] at ha; cases ha
      have aH : H a = none := s0.free ha
      have hlen := his.length
      have hal2 := args_le as
      have hz' : 1 + Tm.sizes as ≤ 100000 := hz
      refine for_tup (K := K) (a := a) (xs := us) (fun i σ H' => ∃ z ys, σ = [some (.ref p), some (.ref d), some (.ref l), z] ∧ Same H H' ∧ H' a = some (.tup us) ∧ H' l = some (.lst (.str f :: ys)) ∧ IsTms H' (Tm.substs b (as.take i)) ys)
        ⟨_, [], rfl, Same.mut s0 aH, upd_same, by rw [upd_ne (Ne.symm hal), upd_same], rfl⟩ (fun i σ H' _ hh => ?_) ?_ ?_
      · obtain ⟨z, ys, rfl, s1, s2, s3, s4⟩ := hh
        exact sqt s2
      · rintro i y σ H' hi ⟨z, ys, rfl, s1, s2, s3, s4⟩
        obtain ⟨u, hu, hy⟩ := his.get hi
        have hde := depth_arg hu
        have hsz := size_arg hu
        have hd' : 1 + Tm.depths as ≤ n + 1 := hd
        have hi' : i < as.length := (List.getElem?_eq_some_iff.mp hu).1
        have hyl := s4.length
        rw [substs_len, List.length_take] at hyl
        refine rd_name (rd_drop ?_)
        refine ⟨_, rfl, .inl ⟨rfl, _, sql s3⟩, rd_call2 (rd_var rfl (rd_var rfl (spSubst.i (by omega) (by omega) (hy.mono (Tups.same s1)) (s1 _ _ hk) (hs.mono (Tups.same s1)) fun z' H'' s5 hz'' => ⟨l, _, z', rfl, rfl, s5 _ _ s3, ?_, some y, ys ++ [z'], rfl, Same.mut (s1.trans s5) hl, ?_, upd_same, ?_⟩)))⟩
        · rw [List.length_cons, sizeLine_eq]; omega
        · rw [upd_ne hal]; exact s5 _ _ s2
        · rw [substs_take hu]
          have tt : Tups H' (upd H'' l (.lst (.str f :: (ys ++ [z'])))) := (Tups.same s5).mut (s5 _ _ s3) fun _ z => by cases z
          have tt2 : Tups H'' (upd H'' l (.lst (.str f :: (ys ++ [z'])))) := tups_lst (s5 _ _ s3)
          exact (IsTms.mono tt s4).app (IsTms.one (hz''.mono tt2))
      · rintro σ H' ⟨z, ys, rfl, s1, s2, s3, s4⟩
        rw [hlen, List.take_length] at s4
        refine rd_nx (rd_ret (rd_B1 ?_))
        refine rd_var rfl ?_
        refine ⟨l, _, rfl, .inl ⟨sql s3, fun r hr => ?_⟩⟩
        have s5 : Same H' (upd H' r (.tup (.str f :: ys))) := Same.new hr _
        exact q _ _ (s1.trans s5) ⟨r, ys, rfl, upd_same, IsTms.mono (Tups.same s5) s4⟩
/-! ### is_wide -/
@[irreducible] def spWide (n : Nat) : Sp := fun vs H Q _ => ∃ t x, vs = [x] ∧ IsTm H t x ∧ t.depth ≤ n ∧ ∀ H', Same H H' → Q (.bl t.wide) H'
theorem spWide.i {n : Nat} {H : Hp} {t : Tm} {x : V} {Q : VK} {E : XK} (h : IsTm H t x) (hd : t.depth ≤ n) (q : ∀ H', Same H H' → Q (.bl t.wide) H') : spWide n [x] H Q E := by
  unfold spWide
  exact ⟨t, x, rfl, h, hd, q⟩
theorem c_wide (T : TopF K mg) (n : Nat) : Cal P w K mg base CX0 (n + 2) "is_wide" ["term"] (spWide n) := by
  refine k_is_wide T (fun vs H Q E h => by unfold spWide at h; obtain ⟨t, x, rfl, _⟩ := h; rfl) (fun cdv A outer s H vs Q E hr h => ?_)
  unfold spWide at h
  obtain ⟨t, x, rfl, ht, hd, q⟩ := h
  obtain ⟨k1, e1⟩ := T.i_WD
  obtain ⟨k2, e2⟩ := T.i_WS
  refine ⟨_, pss_one (ps_ret (pe_or (pe_cmpR op_gt (pe_cal (c_depth T n) hr rfl pass0 (pa_cons (pv 0) pa_nil)) (pe_glob (v := .int 120) rfl e1 ⟨k1, rfl⟩) (nomark _)) (pe_one (pe_cmpR op_gt (pe_cal (c_size T n) hr rfl pass0 (pa_cons (pv 0) pa_nil)) (pe_glob (v := .int 4000) rfl e2 ⟨k2, rfl⟩) (nomark _))))), ?_⟩
  refine rd_ret ?_
  show tOp _ _ _ _ _ _
  refine rd_op (rd_call1 (rd_var rfl (spDepth.i ht hd fun H1 s1 => ⟨_, _, rfl, rfl, _, rfl, ?_⟩)))
  have e : t.wide = (decide ((120 : Int) < (t.depth : Int)) || decide ((4000 : Int) < (t.size : Int))) := by
    unfold Tm.wide
    congr 1 <;> exact decide_eq_decide.mpr (by omega)
  by_cases h : (120 : Int) < (t.depth : Int)
  · have z := q H1 s1
    rw [e, decide_eq_true h] at z
    rw [decide_eq_true h]
    exact iteT z
  · rw [decide_eq_false h]
    refine iteF (rd_op (rd_call1 (rd_var rfl (spSize.i (ht.mono (Tups.same s1)) hd fun H2 s2 => ⟨_, _, rfl, rfl, ?_⟩))))
    have z := q H2 (s1.trans s2)
    rw [e, decide_eq_false h] at z
    exact z
end
end K65
namespace K65
open PySem PySem.Spec PyProof.Rows L2
/-! ### two sorted lists -/
theorem dp_ints {K : PySem.W.Frag} {H : Hp} : ∀ ns : List Int, DpAll K H (ns.map V.int) (ns.map PyData.int)
  | [] => .nil
  | n :: r => .cons (.int n) (dp_ints r)
theorem lay_ints : ∀ ns : List Int, PyData.canLayAll0 (ns.map PyData.int) = true
  | [] => rfl
  | n :: r => by
    show (true && PyData.canLayAll0 (r.map PyData.int)) = true
    rw [lay_ints r]; rfl
theorem depth_ints : ∀ ns : List Int, PyData.depthAll (ns.map PyData.int) = 0
  | [] => rfl
  | n :: r => by
    show max 0 (PyData.depthAll (r.map PyData.int)) = 0
    rw [depth_ints r]; rfl
theorem eqv_ints : ∀ ns ms : List Int, PyData.eqvAll (ns.map PyData.int) (ms.map PyData.int) = decide (ns = ms)
  | [], [] => rfl
  | [], m :: ms => by
    show false = _
    rw [decide_eq_false (fun e => nomatch e)]
  | n :: ns, [] => by
    show false = _
    rw [decide_eq_false (fun e => nomatch e)]
  | n :: ns, m :: ms => by
    show ((n == m) && PyData.eqvAll (ns.map PyData.int) (ms.map PyData.int)) = _
    rw [eqv_ints ns ms]
    by_cases h : n = m
    · subst h
      by_cases h2 : ns = ms
      · subst h2; simp
      · have h' : ¬ (n :: ns = n :: ms) := fun e => h2 (List.cons.inj e).2
        simp [h2, h']
    · have h' : ¬ (n :: ns = m :: ms) := fun e => h (List.cons.inj e).1
      simp [h, h']
def rEqIL (K : PySem.W.Frag) : R2 := fun x y H Q => ∃ (p q : Addr) (ns ms : List Int), x = .ref p ∧ y = .ref q ∧ SqL K H p (ns.map V.int) ∧ SqL K H q (ms.map V.int) ∧ Q (.bl (decide (ns = ms))) H
theorem op_eqIL {X : Cx} (hu : X.A.units + 64 < cLine) : OpR X (compareOp .Eq) (rEqIL X.K) := fun pins s σ H x y v u Q I rx ry h => by
  obtain ⟨p, q, ns, ms, rfl, rfl, h1, h2, k⟩ := h
  refine op_eqD hu pins s σ H _ _ v u Q I rx ry ⟨.list (ns.map .int), .list (ms.map .int), .lst h1 (dp_ints ns), .lst h2 (dp_ints ms), ?_, ?_, ?_⟩
  · show (PyData.canLayAll0 _ && decide (PyData.depthAll _ + 1 ≤ 64)) = true
    rw [lay_ints, depth_ints]; rfl
  · show (PyData.canLayAll0 _ && decide (PyData.depthAll _ + 1 ≤ 64)) = true
    rw [lay_ints, depth_ints]; rfl
  · show Q (.bl (PyData.eqvAll _ _)) H
    rw [eqv_ints]
    exact k
/-- the substitution's keys are the variables of both sides, each once -/
def bindsB (s : Sub) (l r : Tm) : Bool := decide ((s.map (·.1)).Nodup ∧ (∀ n ∈ s.map (·.1), n ∈ l.vars ++ r.vars) ∧ ∀ n ∈ l.vars ++ r.vars, n ∈ s.map (·.1))
theorem sorted_unique : ∀ {xs ys : List Int}, xs.Pairwise (· < ·) → ys.Pairwise (· < ·) → (∀ n, n ∈ xs ↔ n ∈ ys) → xs = ys
  | [], [], _, _, _ => rfl
  | [], y :: ys, _, _, h => absurd ((h y).mpr List.mem_cons_self) (by simp)
  | x :: xs, [], _, _, h => absurd ((h x).mp List.mem_cons_self) (by simp)
  | x :: xs, y :: ys, hx, hy, h => by
    obtain ⟨x1, x2⟩ := List.pairwise_cons.mp hx
    obtain ⟨y1, y2⟩ := List.pairwise_cons.mp hy
    have e : x = y := by
      rcases List.mem_cons.mp ((h x).mp List.mem_cons_self) with e | e
      · exact e
      · rcases List.mem_cons.mp ((h y).mpr List.mem_cons_self) with e2 | e2
        · exact e2.symm
        · have a := y1 x e
          have b := x1 y e2
          omega
    subst e
    rw [sorted_unique x2 y2 fun n => ⟨fun hn => by
      rcases List.mem_cons.mp ((h n).mp (List.mem_cons_of_mem _ hn)) with e | e
      · have := x1 n hn; omega
      · exact e, fun hn => by
      rcases List.mem_cons.mp ((h n).mpr (List.mem_cons_of_mem _ hn)) with e | e
      · have := y1 n hn; omega
      · exact e⟩]
theorem lt_of_le_nd : ∀ {l : List Int}, l.Pairwise (· ≤ ·) → l.Nodup → l.Pairwise (· < ·)
  | [], _, _ => .nil
  | a :: l, h, n => by
    obtain ⟨h1, h2⟩ := List.pairwise_cons.mp h
    obtain ⟨n1, n2⟩ := List.nodup_cons.mp n
    refine List.pairwise_cons.mpr ⟨fun b hb => ?_, lt_of_le_nd h2 n2⟩
    have := h1 b hb
    have : a ≠ b := fun e => n1 (e ▸ hb)
    omega
theorem nd_of_lt : ∀ {l : List Int}, l.Pairwise (· < ·) → l.Nodup
  | [], _ => List.nodup_nil
  | a :: l, h => by
    obtain ⟨h1, h2⟩ := List.pairwise_cons.mp h
    exact List.nodup_cons.mpr ⟨fun m => absurd (h1 a m) (by omega), nd_of_lt h2⟩
theorem binds_eq {s : Sub} {l r : Tm} {ys ns : List Int} (hp : ys.Perm (s.map (·.1))) (hy : ys.Pairwise (· ≤ ·)) (hn : ns.Pairwise (· < ·)) (hm : ∀ k : Int, k ∈ ns ↔ k ∈ l.vars ++ r.vars) : decide (ys = ns) = bindsB s l r := by
  unfold bindsB
  refine decide_eq_decide.mpr ⟨fun e => ?_, fun ⟨h1, h2, h3⟩ => ?_⟩
  · subst e
    refine ⟨hp.nodup_iff.mp (nd_of_lt hn), fun n h => (hm n).mp (hp.mem_iff.mpr h), fun n h => hp.mem_iff.mp ((hm n).mpr h)⟩
  · refine sorted_unique (lt_of_le_nd hy (hp.nodup_iff.mpr h1)) hn fun n => ?_
    rw [hp.mem_iff, hm]
    exact ⟨h2 n, h3 n⟩
section
variable {P : Program} {w : World} {K : PySem.W.Frag} {mg : Str → Option Value} {base : Heap}
@[irreducible] def spBinds (n : Nat) : Sp := fun vs H Q _ => ∃ s l r d kvs x y, vs = [.ref d, x, y] ∧ l.depth ≤ n ∧ l.size ≤ 100000 ∧ r.depth ≤ n ∧ r.size ≤ 100000 ∧ l.vars.length ≤ 20 ∧ r.vars.length ≤ 20 ∧ s.length ≤ 60 ∧ H d = some (.dK kvs) ∧ IsSub H s kvs ∧ IsTm H l x ∧ IsTm H r y ∧ ∀ H', Same H H' → Q (.bl (bindsB s l r)) H'
theorem spBinds.i {n : Nat} {H : Hp} {s : Sub} {l r : Tm} {d : Addr} {kvs : List (Key × V)} {x y : V} {Q : VK} {E : XK} (h1 : l.depth ≤ n) (h2 : l.size ≤ 100000) (h3 : r.depth ≤ n) (h4 : r.size ≤ 100000) (h5 : l.vars.length ≤ 20) (h6 : r.vars.length ≤ 20) (h7 : s.length ≤ 60)
    (hk : H d = some (.dK kvs)) (hs : IsSub H s kvs) (hl : IsTm H l x) (hr : IsTm H r y) (q : ∀ H', Same H H' → Q (.bl (bindsB s l r)) H') : spBinds n [.ref d, x, y] H Q E := by
  unfold spBinds
  exact ⟨s, l, r, d, kvs, x, y, rfl, h1, h2, h3, h4, h5, h6, h7, hk, hs, hl, hr, q⟩
theorem c_binds (T : TopF K mg) (n : Nat) : Cal P w K mg base CX0 (n + 3) "binds_exactly" ["substitution", "left", "right"] (spBinds n) := by
  refine k_binds_exactly T (fun vs H Q E h => by unfold spBinds at h; obtain ⟨s, l, r, d, kvs, x, y, rfl, _⟩ := h; rfl) (fun cdv A outer s H vs Q E hr h => ?_)
  unfold spBinds at h
  obtain ⟨b, l, r, d, kvs, x, y, rfl, h1, h2, h3, h4, h5, h6, h7, hk, hs, hl, hrt, q⟩ := h
  have hu := hr.units
  refine ⟨_, pss_one (ps_ret (pe_cmpR (op_eqIL hu) (pe_callB (call_sortedDI rfl) rfl T.z_sorted (by decide +kernel) (pa_cons (pv 0) pa_nil))
    (pe_callB (cr_sortedSet rfl) rfl T.z_sorted (by decide +kernel) (pa_cons (pe_callTy (cr_setL rfl) rfl T.z_set (by decide +kernel) (pa_cons (pe_op op_cat (pe_cal (c_variables T n) hr rfl pass0 (pa_cons (pv 1) pa_nil)) (pe_cal (c_variables T n) hr rfl pass0 (pa_cons (pv 2) pa_nil))) pa_nil)) pa_nil)) (nomark _))), ?_⟩
  refine rd_ret (rd_op (rd_B1 ?_))
  refine rd_var rfl ?_
  refine ⟨d, kvs, b.map (·.1), rfl, .inl hk, hs.keys, by rw [List.length_map]; omega, fun ys p hp hy np => ?_⟩
  have s1 : Same H (upd H p (.lst (ys.map V.int))) := Same.new np _
  refine rd_B1 (rd_B1 (rd_op (rd_call1 (rd_var rfl (spVars.i (hl.mono (Tups.same s1)) h1 h2 fun a H2 na s2 ha => ?_)))))
  refine rd_call1 (rd_var rfl (spVars.i (hrt.mono (Tups.same (s1.trans s2))) h3 h4 fun c H3 nc s3 hc => ?_))
  refine ⟨a, c, _, _, rfl, rfl, s3 _ _ ha, hc, by rw [List.length_map, List.length_map, sizeLine_eq]; omega, fun e ne => ?_⟩
  refine ⟨e, l.vars ++ r.vars, rfl, sql (by rw [upd_same, List.map_append]), by rw [List.length_append]; omega, fun f c' hc' nf => ?_⟩
  have hcl : c' ≤ 40 := by rw [List.length_append] at hc'; omega
  refine ⟨f, _, c', rfl, upd_same, by omega, fun ns g hn hm hl' ng => ?_⟩
  have s4 := ((s2.trans s3).trans (Same.new ne (.lst (l.vars.map V.int ++ r.vars.map V.int)))).trans (Same.new nf (SetO w f (fun j => decide (j ∈ l.vars ++ r.vars)) c'))
  have s5 := s4.trans (Same.new ng (.lst (ns.map V.int)))
  refine ⟨p, g, ys, ns, rfl, rfl, sql (s5 _ _ upd_same), sql upd_same, ?_⟩
  rw [binds_eq hp hy hn fun k => by rw [hm k]; exact decide_eq_true_iff]
  exact q _ (s1.trans s5)
end
end K65
namespace K65
open PySem PySem.Spec PyProof.Rows L2
/-! ### lists of things -/
def A2 {α : Type} (R : α → V → Prop) : List α → List V → Prop
  | [], vs => vs = []
  | a :: r, vs => ∃ x q, vs = x :: q ∧ R a x ∧ A2 R r q
section
variable {α : Type} {R R' : α → V → Prop}
theorem A2.imp (h : ∀ a x, R a x → R' a x) : ∀ {l : List α} {vs : List V}, A2 R l vs → A2 R' l vs
  | [], _, z => z
  | a :: r, _, z => by
    obtain ⟨x, q, e, h1, h2⟩ := z
    exact ⟨x, q, e, h _ _ h1, A2.imp h h2⟩
theorem A2.len : ∀ {l : List α} {vs : List V}, A2 R l vs → vs.length = l.length
  | [], vs, z => by rw [show vs = [] from z]; rfl
  | a :: r, vs, z => by
    obtain ⟨x, q, rfl, h1, h2⟩ := z
    exact congrArg Nat.succ (A2.len h2)
theorem A2.nth : ∀ {l : List α} {vs : List V} {i : Nat} {a : α}, A2 R l vs → l[i]? = some a → ∃ x, vs[i]? = some x ∧ R a x
  | [], _, _, _, _, e => by simp at e
  | b :: r, vs, i, a, z, e => by
    obtain ⟨x, q, rfl, h1, h2⟩ := z
    cases i with
    | zero => simp at e; subst e; exact ⟨x, rfl, h1⟩
    | succ i => exact A2.nth (l := r) (vs := q) (i := i) h2 (by simpa using e)
theorem A2.get : ∀ {l : List α} {vs : List V} {i : Nat} {x : V}, A2 R l vs → vs[i]? = some x → ∃ a, l[i]? = some a ∧ R a x
  | [], vs, _, _, z, e => by rw [show vs = [] from z] at e; simp at e
  | b :: r, vs, i, y, z, e => by
    obtain ⟨x, q, rfl, h1, h2⟩ := z
    cases i with
    | zero => simp at e; subst e; exact ⟨b, rfl, h1⟩
    | succ i => exact A2.get (l := r) (vs := q) (i := i) h2 (by simpa using e)
theorem A2.app : ∀ {l l' : List α} {vs vs' : List V}, A2 R l vs → A2 R l' vs' → A2 R (l ++ l') (vs ++ vs')
  | [], l', vs, vs', z, z' => by rw [show vs = [] from z]; exact z'
  | a :: r, l', vs, vs', z, z' => by
    obtain ⟨x, q, rfl, h1, h2⟩ := z
    exact ⟨x, q ++ vs', rfl, h1, A2.app h2 z'⟩
theorem A2.one {a : α} {x : V} (h : R a x) : A2 R [a] [x] := ⟨x, [], rfl, h, rfl⟩
theorem A2.nil : A2 R [] [] := rfl
theorem A2.take : ∀ {l : List α} {vs : List V} (n : Nat), A2 R l vs → A2 R (l.take n) (vs.take n)
  | _, vs, 0, h => by simp [A2]
  | [], vs, n + 1, h => by rw [show vs = [] from h]; simp [A2]
  | a :: r, vs, n + 1, h => by
    obtain ⟨x, q, rfl, h1, h2⟩ := h
    exact ⟨x, q.take n, rfl, h1, A2.take n h2⟩
end
/-! ### equations, steps, stages as they lie -/
abbrev Eqn := Tm × Tm
structure Stp where
  giv : Bool
  idx : Nat
  fwd : Bool
  pos : List Nat
  sub : Sub
structure Stg where
  l : Tm
  r : Tm
  steps : List Stp
def kindS (b : Bool) : Str := if b then "given" else "stage"
def IsEq (H : Hp) (e : Eqn) (v : V) : Prop := ∃ p x y, v = .ref p ∧ H p = some (.tup [x, y]) ∧ IsTm H e.1 x ∧ IsTm H e.2 y
def IsStp (H : Hp) (s : Stp) (v : V) : Prop := ∃ p q r d kvs, v = .ref p ∧ H p = some (.tup [.ref q, .bl s.fwd, .ref r, .ref d]) ∧ H q = some (.tup [.str (kindS s.giv), .int (s.idx : Int)]) ∧ H r = some (.tup (s.pos.map pI)) ∧ H d = some (.dK kvs) ∧ IsSub H s.sub kvs
def IsStg (H : Hp) (s : Stg) (v : V) : Prop := ∃ p x y q ss, v = .ref p ∧ H p = some (.tup [x, y, .ref q]) ∧ IsTm H s.l x ∧ IsTm H s.r y ∧ H q = some (.lst ss) ∧ A2 (IsStp H) s.steps ss
section
variable {H H' : Hp}
theorem IsEq.mono (s : Tups H H') {e : Eqn} {v : V} (h : IsEq H e v) : IsEq H' e v := by
  obtain ⟨p, x, y, e, h1, h2, h3⟩ := h
  exact ⟨p, x, y, e, s _ _ h1, h2.mono s, h3.mono s⟩
theorem IsStp.mono (s : Same H H') {e : Stp} {v : V} (h : IsStp H e v) : IsStp H' e v := by
  obtain ⟨p, q, r, d, kvs, e, h1, h2, h3, h4, h5⟩ := h
  exact ⟨p, q, r, d, kvs, e, s _ _ h1, s _ _ h2, s _ _ h3, s _ _ h4, h5.mono (Tups.same s)⟩
theorem IsStg.mono (s : Same H H') {e : Stg} {v : V} (h : IsStg H e v) : IsStg H' e v := by
  obtain ⟨p, x, y, q, ss, e, h1, h2, h3, h4, h5⟩ := h
  exact ⟨p, x, y, q, ss, e, s _ _ h1, h2.mono (Tups.same s), h3.mono (Tups.same s), s _ _ h4, h5.imp fun _ _ z => z.mono s⟩
theorem A2.eqs (s : Tups H H') {l : List Eqn} {vs : List V} (h : A2 (IsEq H) l vs) : A2 (IsEq H') l vs := h.imp fun _ _ z => z.mono s
theorem A2.stps (s : Same H H') {l : List Stp} {vs : List V} (h : A2 (IsStp H) l vs) : A2 (IsStp H') l vs := h.imp fun _ _ z => z.mono s
theorem A2.stgs (s : Same H H') {l : List Stg} {vs : List V} (h : A2 (IsStg H) l vs) : A2 (IsStg H') l vs := h.imp fun _ _ z => z.mono s
end
def namedAt (given : List Eqn) (stages : List Stg) (b : Bool) (i : Nat) : Option Eqn := if b then given[i]? else (stages[i]?).map fun s => (s.l, s.r)
/-- v is the equation, or None -/
def IsEqO (H : Hp) : Option Eqn → V → Prop
  | none, v => v = .non
  | some e, v => IsEq H e v
section
variable {P : Program} {w : World} {K : PySem.W.Frag} {mg : Str → Option Value} {base : Heap}
@[irreducible] def spNamed : Sp := fun vs H Q _ => ∃ given stages g sl sp gs ss b i, vs = [.ref g, .ref sl, .ref sp] ∧ H g = some (.lst gs) ∧ A2 (IsEq H) given gs ∧ H sl = some (.lst ss) ∧ A2 (IsStg H) stages ss ∧ H sp = some (.tup [.str (kindS b), .int ((i : Nat) : Int)]) ∧
  ∀ v H', Same H H' → IsEqO H' (namedAt given stages b i) v → Q v H'
theorem spNamed.i {H : Hp} {given : List Eqn} {stages : List Stg} {g sl sp : Addr} {gs ss : List V} {b : Bool} {i : Nat} {Q : VK} {E : XK} (h1 : H g = some (.lst gs)) (h2 : A2 (IsEq H) given gs) (h3 : H sl = some (.lst ss)) (h4 : A2 (IsStg H) stages ss)
    (h5 : H sp = some (.tup [.str (kindS b), .int ((i : Nat) : Int)])) (q : ∀ v H', Same H H' → IsEqO H' (namedAt given stages b i) v → Q v H') : spNamed [.ref g, .ref sl, .ref sp] H Q E := by
  unfold spNamed
  exact ⟨given, stages, g, sl, sp, gs, ss, b, i, rfl, h1, h2, h3, h4, h5, q⟩
theorem c_named (T : TopF K mg) : Cal P w K mg base CX0 1 "named_equation" ["given", "stages", "source"] spNamed := by
  refine k_named_equation T (fun vs H Q E h => by unfold spNamed at h; obtain ⟨_, _, _, _, _, _, _, _, _, rfl, _⟩ := h; rfl) (fun cdv A outer s H vs Q E hr h => ?_)
  unfold spNamed at h
  obtain ⟨given, stages, g, sl, sp, gs, ss, b, i, rfl, h1, h2, h3, h4, h5, q⟩ := h
  refine ⟨_, pss_cons (ps_asg (pv 2) (pg_tup rfl (pgs_cons (pg_name (i := 3) sc_named_equation.nd rfl (Or.inl rfl)) (pgs_cons (pg_name (i := 4) sc_named_equation.nd rfl (Or.inl rfl)) pgs_nil))))
    (pss_cons (ps_if (pt_cmpR op_eq (pv 3) pe_str (nomark _)) (pss_one (ps_ret (pe_ifExp (pt_chain op_le op_lt pe_int (pv 4) (pe_callB call_len rfl T.z_len (by decide +kernel) (pa_cons (pv 0) pa_nil))) (pe_ix ix_list (pv 0) (pv 4) (fun _ _ => rfl)) pe_non))) pss_nil)
    (pss_cons (ps_if (pt_chain op_le op_lt pe_int (pv 4) (pe_callB call_len rfl T.z_len (by decide +kernel) (pa_cons (pv 1) pa_nil)))
      (pss_one (ps_ret (pe_tup (pa_cons (pe_ix ix_tup (pe_ix ix_list (pv 1) (pv 4) (fun _ _ => rfl)) pe_int (fun _ _ => rfl)) (pa_cons (pe_ix ix_tup (pe_ix ix_list (pv 1) (pv 4) (fun _ _ => rfl)) pe_int (fun _ _ => rfl)) pa_nil))))) pss_nil)
    (pss_one (ps_ret pe_non)))), ?_⟩
  refine rd_seq (rd_asg ?_)
  refine ⟨_, rfl, sp, _, rfl, sqt h5, rfl, _, _, rfl, _, _, rfl, rfl, ?_⟩
  refine rd_nx (rd_when1 (rd_test (rd_op (rd_var rfl (rd_c ⟨?_, _, rfl, ?_⟩)))))
  · rfl
  have le0 : (0 : Int) ≤ ((i : Nat) : Int) := by omega
  have l2 := h2.len
  have l4 := h4.len
  cases b with
  | true =>
    rw [decide_eq_true (show V.str (kindS true) = V.str "given" from rfl)]
    refine iteT (rd_ret ?_)
    refine ⟨_, rfl, _, _, rfl, rfl, _, rfl, ?_⟩
    rw [decide_eq_true le0]
    refine iteT ⟨_, rfl, _, _, rfl, .inl ⟨_, sql h1, rfl⟩, _, _, rfl, rfl, _, rfl, ?_⟩
    by_cases hi : i < given.length
    · rw [decide_eq_true (by rw [l2]; omega)]
      have e : given[i]? = some given[i] := List.getElem?_eq_getElem hi
      obtain ⟨x, hx, ix⟩ := h2.nth e
      refine iteT ⟨_, rfl, _, rfl, g, gs, _, x, rfl, rfl, sql h1, atI_nat hx, q x H (Same.refl H) ?_⟩
      show IsEqO H (given[i]?) x
      rw [e]
      exact ix
    · rw [decide_eq_false (by rw [l2]; omega)]
      refine iteF (q .non H (Same.refl H) ?_)
      show IsEqO H (given[i]?) _
      rw [List.getElem?_eq_none (by omega)]
      rfl
  | false =>
    rw [decide_eq_false (show ¬ V.str (kindS false) = V.str "given" by decide)]
    refine iteF (rd_when1 ?_)
    refine ⟨_, rfl, _, _, rfl, rfl, _, rfl, ?_⟩
    rw [decide_eq_true le0]
    refine iteT ⟨_, rfl, _, _, rfl, .inl ⟨_, sql h3, rfl⟩, _, _, rfl, rfl, _, rfl, ?_⟩
    by_cases hi : i < stages.length
    · rw [decide_eq_true (by rw [l4]; omega)]
      have e : stages[i]? = some stages[i] := List.getElem?_eq_getElem hi
      obtain ⟨x, hx, p, y, z, r, us, rfl, hp, i1, i2, _⟩ := h4.nth e
      refine iteT (rd_ret ?_)
      refine ⟨_, rfl, _, rfl, sl, ss, _, _, rfl, rfl, sql h3, atI_nat hx, p, _, _, y, rfl, rfl, sqt hp, at0, _, rfl, _, rfl, sl, ss, _, _, rfl, rfl, sql h3, atI_nat hx, p, _, _, z, rfl, rfl, sqt hp, at1, (by show 2 ≤ sizeLine; decide), fun t ht => ?_⟩
      have s1 : Same H (upd H t (.tup [y, z])) := Same.new ht _
      refine q _ _ s1 ?_
      show IsEqO _ ((stages[i]?).map fun s => (s.l, s.r)) _
      rw [e]
      exact ⟨t, y, z, rfl, upd_same, i1.mono (Tups.same s1), i2.mono (Tups.same s1)⟩
    · rw [decide_eq_false (by rw [l4]; omega)]
      refine iteF (q .non H (Same.refl H) ?_)
      show IsEqO H ((stages[i]?).map fun s => (s.l, s.r)) _
      rw [List.getElem?_eq_none (by omega)]
      rfl
end
end K65
namespace K65
open PySem PySem.Spec PyProof.Rows L2
/-! ### bounds -/
/-- small: sides of equations, values of substitutions -/
structure Lim (t : Tm) : Prop where
  d : t.depth ≤ 12
  z : t.size ≤ 2500
  tx : t.texts
  vl : t.vars.length ≤ 20
def GoodEq (e : Eqn) : Prop := Lim e.1 ∧ Lim e.2
def GoodStp (s : Stp) : Prop := s.sub.length ≤ 60 ∧ ∀ p ∈ s.sub, Lim p.2
structure GoodStg (s : Stg) : Prop where
  l : Lim s.l
  r : Lim s.r
  n : s.steps.length ≤ 1000
  st : ∀ p ∈ s.steps, GoodStp p
/-- what a step may be applied to -/
structure Big (t : Tm) : Prop where
  d : t.depth ≤ 120
  z : t.size ≤ 4000
  tx : t.texts
theorem Lim.big {t : Tm} (h : Lim t) : Big t := ⟨Nat.le_trans h.d (by decide), Nat.le_trans h.z (by decide), h.tx⟩
theorem lookup_mem' {s : Sub} {n : Int} {t : Tm} : s.lookup n = some t → (n, t) ∈ s := by
  induction s with
  | nil => intro h; cases h
  | cons p r ih =>
    intro h
    obtain ⟨m, u⟩ := p
    by_cases e : n = m
    · subst e
      simp [List.lookup] at h
      subst h
      exact List.mem_cons_self
    · have e1 : (n == m) = false := by simpa using e
      simp [List.lookup, e1] at h
      exact List.mem_cons_of_mem _ (ih h)
mutual
theorem depth_subst {s : Sub} {d : Nat} (h : ∀ p ∈ s, p.2.depth ≤ d) : ∀ t : Tm, (t.subst s).depth ≤ t.depth + d
  | .v n => by
    show ((s.lookup n).getD (.v n)).depth ≤ 1 + d
    cases e : s.lookup n with
    | none => exact Nat.le_add_right 1 d
    | some u =>
      have := h _ (lookup_mem' e)
      show u.depth ≤ 1 + d
      simp at this
      omega
  | .a f as => by
    show 1 + Tm.depths (Tm.substs s as) ≤ 1 + Tm.depths as + d
    have := depths_subst h as
    omega
theorem depths_subst {s : Sub} {d : Nat} (h : ∀ p ∈ s, p.2.depth ≤ d) : ∀ ts : List Tm, Tm.depths (Tm.substs s ts) ≤ Tm.depths ts + d
  | [] => Nat.zero_le _
  | t :: r => by
    show max (t.subst s).depth (Tm.depths (Tm.substs s r)) ≤ max t.depth (Tm.depths r) + d
    have h1 := depth_subst h t
    have h2 := depths_subst h r
    omega
end
mutual
theorem size_subst {s : Sub} {z : Nat} (hz : 1 ≤ z) (h : ∀ p ∈ s, p.2.size ≤ z) : ∀ t : Tm, (t.subst s).size ≤ t.size * z
  | .v n => by
    show ((s.lookup n).getD (.v n)).size ≤ 1 * z
    cases e : s.lookup n with
    | none => show 1 ≤ 1 * z; omega
    | some u =>
      have := h _ (lookup_mem' e)
      show u.size ≤ 1 * z
      simp at this
      omega
  | .a f as => by
    show 1 + Tm.sizes (Tm.substs s as) ≤ (1 + Tm.sizes as) * z
    have := sizes_subst hz h as
    rw [Nat.add_mul]
    omega
theorem sizes_subst {s : Sub} {z : Nat} (hz : 1 ≤ z) (h : ∀ p ∈ s, p.2.size ≤ z) : ∀ ts : List Tm, Tm.sizes (Tm.substs s ts) ≤ Tm.sizes ts * z
  | [] => Nat.zero_le _
  | t :: r => by
    show (t.subst s).size + Tm.sizes (Tm.substs s r) ≤ (t.size + Tm.sizes r) * z
    have h1 := size_subst hz h t
    have h2 := sizes_subst hz h r
    rw [Nat.add_mul]
    omega
end
mutual
theorem syms_subst {s : Sub} : ∀ {t : Tm} {k : Key}, k ∈ (t.subst s).syms → k ∈ t.syms ∨ ∃ p ∈ s, k ∈ p.2.syms
  | .v n, k, h => by
    have h : k ∈ ((s.lookup n).getD (.v n)).syms := h
    cases e : s.lookup n with
    | none => rw [e] at h; exact .inl h
    | some u => rw [e] at h; exact .inr ⟨_, lookup_mem' e, h⟩
  | .a f as, k, h => by
    rcases List.mem_cons.mp h with e | h
    · exact .inl (List.mem_cons.mpr (.inl e))
    · rcases symss_subst h with h | h
      · exact .inl (List.mem_cons.mpr (.inr h))
      · exact .inr h
theorem symss_subst {s : Sub} : ∀ {ts : List Tm} {k : Key}, k ∈ Tm.symss (Tm.substs s ts) → k ∈ Tm.symss ts ∨ ∃ p ∈ s, k ∈ p.2.syms
  | [], k, h => by cases h
  | t :: r, k, h => by
    rcases List.mem_append.mp h with h | h
    · rcases syms_subst h with h | h
      · exact .inl (List.mem_append.mpr (.inl h))
      · exact .inr h
    · rcases symss_subst h with h | h
      · exact .inl (List.mem_append.mpr (.inr h))
      · exact .inr h
end
theorem texts_subst {s : Sub} {t : Tm} (ht : t.texts) (hs : ∀ p ∈ s, p.2.texts) : (t.subst s).texts := fun f hf => by
  rcases syms_subst hf with h | ⟨p, hp, h⟩
  · exact ht f h
  · exact hs p hp f h
/-! ### replaced subterms -/
theorem modify_none {α : Type} {g : α → α} : ∀ {l : List α} {m : Nat}, l[m]? = none → l.modify m g = l
  | [], m, h => by simp
  | a :: l, 0, h => by simp at h
  | a :: l, m + 1, h => by
    rw [List.modify_succ_cons, modify_none (by simpa using h)]
theorem depths_modify {g : Tm → Tm} {d : Nat} (hg : ∀ t, (g t).depth ≤ t.depth + d) : ∀ (ts : List Tm) (m : Nat), Tm.depths (ts.modify m g) ≤ Tm.depths ts + d
  | [], m => by simp [Tm.depths]
  | t :: r, 0 => by
    have := hg t
    simp only [List.modify_zero_cons, Tm.depths]
    omega
  | t :: r, m + 1 => by
    have := depths_modify hg r m
    simp only [List.modify_succ_cons, Tm.depths]
    omega
theorem sizes_modify {g : Tm → Tm} {d : Nat} (hg : ∀ t, (g t).size ≤ t.size + d) : ∀ (ts : List Tm) (m : Nat), Tm.sizes (ts.modify m g) ≤ Tm.sizes ts + d
  | [], m => by simp [Tm.sizes]
  | t :: r, 0 => by
    have := hg t
    simp only [List.modify_zero_cons, Tm.sizes]
    omega
  | t :: r, m + 1 => by
    have := sizes_modify hg r m
    simp only [List.modify_succ_cons, Tm.sizes]
    omega
theorem symss_modify {g : Tm → Tm} {k : Key} {S : Prop} (hg : ∀ t, k ∈ (g t).syms → k ∈ t.syms ∨ S) : ∀ {ts : List Tm} {m : Nat}, k ∈ Tm.symss (ts.modify m g) → k ∈ Tm.symss ts ∨ S
  | [], m, h => by simp [Tm.symss] at h
  | t :: r, 0, h => by
    rw [List.modify_zero_cons] at h
    rcases List.mem_append.mp h with h | h
    · rcases hg t h with h | h
      · exact .inl (List.mem_append.mpr (.inl h))
      · exact .inr h
    · exact .inl (List.mem_append.mpr (.inr h))
  | t :: r, m + 1, h => by
    rw [List.modify_succ_cons] at h
    rcases List.mem_append.mp h with h | h
    · exact .inl (List.mem_append.mpr (.inl h))
    · rcases symss_modify hg h with h | h
      · exact .inl (List.mem_append.mpr (.inr h))
      · exact .inr h
theorem depth_repl {u : Tm} : ∀ (p : List Nat) (t : Tm), (t.repl p u).depth ≤ t.depth + u.depth
  | [], t => by
    have e : t.repl [] u = u := by cases t <;> rfl
    rw [e]; omega
  | k :: r, .v n => by show 1 ≤ _; have := u.depth_pos; show 1 ≤ 1 + u.depth; omega
  | k :: r, .a f as => by
    have := depths_modify (fun t => depth_repl (u := u) r t) as (k - 1)
    show 1 + Tm.depths (as.modify (k - 1) fun t => t.repl r u) ≤ 1 + Tm.depths as + u.depth
    omega
theorem size_repl {u : Tm} : ∀ (p : List Nat) (t : Tm), (t.repl p u).size ≤ t.size + u.size
  | [], t => by
    have e : t.repl [] u = u := by cases t <;> rfl
    rw [e]; omega
  | k :: r, .v n => by show 1 ≤ 1 + u.size; omega
  | k :: r, .a f as => by
    have := sizes_modify (fun t => size_repl (u := u) r t) as (k - 1)
    show 1 + Tm.sizes (as.modify (k - 1) fun t => t.repl r u) ≤ 1 + Tm.sizes as + u.size
    omega
theorem syms_repl {u : Tm} {k : Key} : ∀ {p : List Nat} {t : Tm}, k ∈ (t.repl p u).syms → k ∈ t.syms ∨ k ∈ u.syms
  | [], t, h => by
    have e : t.repl [] u = u := by cases t <;> rfl
    rw [e] at h
    exact .inr h
  | j :: r, .v n, h => .inl h
  | j :: r, .a f as, h => by
    rcases List.mem_cons.mp h with e | h
    · exact .inl (List.mem_cons.mpr (.inl e))
    · rcases symss_modify (fun t => syms_repl (u := u) (k := k) (p := r) (t := t)) h with h | h
      · exact .inl (List.mem_cons.mpr (.inr h))
      · exact .inr h
theorem texts_repl {p : List Nat} {t u : Tm} (ht : t.texts) (hu : u.texts) : (t.repl p u).texts := fun f hf => (syms_repl hf).elim (ht f) (hu f)
theorem syms_arg {t u : Tm} {j : Nat} {k : Key} (e : t.arg j = some u) (h : k ∈ u.syms) : k ∈ t.syms := by
  cases t with
  | v n => cases e
  | a f as =>
    cases j with
    | zero => cases e
    | succ j =>
      have e' : as[j]? = some u := e
      have key : ∀ {ts : List Tm} {i : Nat}, ts[i]? = some u → k ∈ Tm.symss ts := by
        intro ts
        induction ts with
        | nil => intro i z; simp at z
        | cons t r ih =>
          intro i z
          cases i with
          | zero => simp at z; subst z; exact List.mem_append.mpr (.inl h)
          | succ i => exact List.mem_append.mpr (.inr (ih (i := i) (by simpa using z)))
      exact List.mem_cons.mpr (.inr (key e'))
theorem syms_sub {k : Key} : ∀ {p : List Nat} {t u : Tm}, t.sub p = some u → k ∈ u.syms → k ∈ t.syms
  | [], t, u, e, h => by cases e; exact h
  | j :: r, t, u, e, h => by
    have e' : (t.arg j).bind (·.sub r) = some u := e
    cases q : t.arg j with
    | none => rw [q] at e'; cases e'
    | some v =>
      rw [q] at e'
      exact syms_arg q (syms_sub (p := r) (t := v) (u := u) e' h)
/-! ### steps, stages, derivations -/
/-- the side that a step looks for -/
def sideO (e : Eqn) (f : Bool) : Tm := if f then e.1 else e.2
theorem lim_side {e : Eqn} (h : GoodEq e) (f : Bool) : Lim (sideO e f) := by
  cases f with
  | true => exact h.1
  | false => exact h.2
def stepTm (given : List Eqn) (stages : List Stg) (t : Tm) (s : Stp) : Option Tm :=
  match namedAt given stages s.giv s.idx with
  | none => none
  | some e => if bindsB s.sub e.1 e.2 = true then
      match t.sub s.pos with
      | none => none
      | some u => if u = (sideO e s.fwd).subst s.sub then
          (if (t.repl s.pos ((sideO e !s.fwd).subst s.sub)).wide = true then none else some (t.repl s.pos ((sideO e !s.fwd).subst s.sub)))
        else none
    else none
theorem step_big {given : List Eqn} {stages : List Stg} {t u : Tm} {s : Stp} (hg : ∀ e ∈ given, GoodEq e) (hst : ∀ g ∈ stages, GoodStg g) (hs : GoodStp s) (ht : Big t) (h : stepTm given stages t s = some u) : Big u := by
  unfold stepTm at h
  split at h
  · cases h
  · rename_i e he
    split at h
    · split at h
      · cases h
      · rename_i v hv
        split at h
        · split at h
          · cases h
          · rename_i hw
            cases h
            have hw' : (t.repl s.pos ((sideO e !s.fwd).subst s.sub)).wide = false := Bool.eq_false_iff.mpr hw
            unfold Tm.wide at hw'
            obtain ⟨h1, h2⟩ := Bool.or_eq_false_iff.mp hw'
            have h1 := of_decide_eq_false h1
            have h2 := of_decide_eq_false h2
            have ge : GoodEq e := by
              unfold namedAt at he
              split at he
              · exact hg e (List.mem_of_getElem? he)
              · cases q : stages[s.idx]? with
                | none => rw [q] at he; cases he
                | some g =>
                  rw [q] at he
                  cases he
                  have := hst g (List.mem_of_getElem? q)
                  exact ⟨this.l, this.r⟩
            exact ⟨by omega, by omega, texts_repl ht.tx (texts_subst (lim_side ge _).tx fun p hp => (hs.2 p hp).tx)⟩
        · cases h
    · cases h
def visit (given : List Eqn) (stages : List Stg) : Tm → List Stp → Option Tm
  | t, [] => some t
  | t, s :: r => (stepTm given stages t s).bind fun u => visit given stages u r
/-- the steps of stage s lead from its left to its right side -/
def leadsB (given : List Eqn) (earlier : List Stg) (s : Stg) : Bool := match visit given earlier s.l s.steps with
  | none => false
  | some u => decide (u = s.r)
def derB (given : List Eqn) : List Stg → List Stg → Bool
  | _, [] => true
  | earlier, s :: r => leadsB given earlier s && derB given (earlier ++ [s]) r
end K65
namespace K65
open PySem PySem.Spec PyProof.Rows L2
/-! ### more readings -/
section
variable {K : PySem.W.Frag} {σ : L2.St} {H : Hp} {Q : VK} {D : Ends} {ta tb tc td te : TE} {t u : TS} {c d : TT} {i j k l : Nat} {p : Addr} {v x y z x1 x2 x3 x4 : V} {xs : List V} {QB : Bool → Hp → Prop} {QS : L2.St → Hp → Prop}
theorem rd_yes (h : QB true H) : tYes σ H QB := h
theorem rd_rng1 {ha : TA} {R : It → Hp → Prop} (h : ha σ H fun vs H1 => ∃ j : Int, vs = [.int j] ∧ -(2 ^ 62) ≤ j ∧ j < 2 ^ 62 ∧ R (Itr 0 j.toNat) H1) : iRng1 ha σ H R := h
theorem rd_or (h : c σ H fun b H1 => if b = true then QB true H1 else d σ H1 QB) : tOr c d σ H QB := h
theorem rd_and (h : c σ H fun b H1 => if b = true then d σ H1 QB else QB false H1) : tAnd c d σ H QB := h
theorem rd_ite (h : c σ H fun b H1 => if b = true then ta σ H1 Q else tb σ H1 Q) : tIf c ta tb σ H Q := h
/-- x is None, x a local -/
theorem rd_isN (hi : σ[i]? = some (some v)) (q : Q (.bl (decide (v = .non))) H) : tOp (fun x y H Q => y = .non ∧ Q (.bl (decide (x = .non))) H) (tVar i) (tC .non) σ H Q := ⟨v, hi, rfl, q⟩
theorem rd_notN (hi : σ[i]? = some (some v)) (q : Q (.bl (!decide (v = .non))) H) : tOp (fun x y H Q => y = .non ∧ Q (.bl (!decide (x = .non))) H) (tVar i) (tC .non) σ H Q := ⟨v, hi, rfl, q⟩
theorem rd_tru {b : Bool} (hi : σ[i]? = some (some (.bl b))) (q : QB b H) : tB (tVar i) σ H QB := ⟨_, hi, b, rfl, q⟩
/-- a, b = v .. -/
theorem rd_unl2 (hv : v = .ref p) (hp : H p = some (.tup [x1, x2])) (q : QS ((σ.set i (some x1)).set j (some x2)) H) : gTup K 2 (gCons (gName i) (gCons (gName j) gNil)) v σ H QS :=
  ⟨p, _, hv, sqt hp, rfl, _, _, rfl, _, _, rfl, rfl, q⟩
theorem rd_unl3 (hv : v = .ref p) (hp : H p = some (.tup [x1, x2, x3])) (q : QS (((σ.set i (some x1)).set j (some x2)).set k (some x3)) H) : gTup K 3 (gCons (gName i) (gCons (gName j) (gCons (gName k) gNil))) v σ H QS :=
  ⟨p, _, hv, sqt hp, rfl, _, _, rfl, _, _, rfl, _, _, rfl, rfl, q⟩
theorem rd_unl4 (hv : v = .ref p) (hp : H p = some (.tup [x1, x2, x3, x4])) (q : QS ((((σ.set i (some x1)).set j (some x2)).set k (some x3)).set l (some x4)) H) : gTup K 4 (gCons (gName i) (gCons (gName j) (gCons (gName k) (gCons (gName l) gNil)))) v σ H QS :=
  ⟨p, _, hv, sqt hp, rfl, _, _, rfl, _, _, rfl, _, _, rfl, _, _, rfl, rfl, q⟩
/-- x[n], x[i] -/
theorem rd_ixT (h : ta σ H fun a H1 => tb σ H1 fun b H2 => ∃ p xs i v, a = .ref p ∧ b = .int i ∧ SqT K H2 p xs ∧ atI xs i = some v ∧ Q v H2) : tOp (rIxT K) ta tb σ H Q := h
theorem rd_ixL (h : ta σ H fun a H1 => tb σ H1 fun b H2 => ∃ p xs i v, a = .ref p ∧ b = .int i ∧ SqL K H2 p xs ∧ atI xs i = some v ∧ Q v H2) : tOp (rIxL K) ta tb σ H Q := h
theorem rd_ixTc {n : Int} (hi : σ[i]? = some (some (.ref p))) (hp : H p = some (.tup xs)) (ha : atI xs n = some v) (q : Q v H) : tOp (rIxT K) (tVar i) (tC (.int n)) σ H Q :=
  ⟨_, hi, p, xs, n, v, rfl, rfl, sqt hp, ha, q⟩
theorem rd_ixLc {n : Int} (hi : σ[i]? = some (some (.ref p))) (hp : H p = some (.lst xs)) (ha : atI xs n = some v) (q : Q v H) : tOp (rIxL K) (tVar i) (tC (.int n)) σ H Q :=
  ⟨_, hi, p, xs, n, v, rfl, rfl, sql hp, ha, q⟩
theorem rd_ixTv {n : Int} (hi : σ[i]? = some (some (.ref p))) (hj : σ[j]? = some (some (.int n))) (hp : H p = some (.tup xs)) (ha : atI xs n = some v) (q : Q v H) : tOp (rIxT K) (tVar i) (tVar j) σ H Q :=
  ⟨_, hi, _, hj, p, xs, n, v, rfl, rfl, sqt hp, ha, q⟩
theorem rd_ixLv {n : Int} (hi : σ[i]? = some (some (.ref p))) (hj : σ[j]? = some (some (.int n))) (hp : H p = some (.lst xs)) (ha : atI xs n = some v) (q : Q v H) : tOp (rIxL K) (tVar i) (tVar j) σ H Q :=
  ⟨_, hi, _, hj, p, xs, n, v, rfl, rfl, sql hp, ha, q⟩
/-- x[-1] -/
theorem rd_lastL (hi : σ[i]? = some (some (.ref p))) (hp : H p = some (.lst (xs ++ [v]))) (q : Q v H) : tOp (rIxL K) (tVar i) (tUn (rU fun i => .int (-i)) (tC (.int 1))) σ H Q :=
  ⟨_, hi, (1 : Int), rfl, p, _, -1, v, rfl, rfl, sql hp, atI_last _ _, q⟩
theorem ln_ok {n : Nat} (h : n.ble 1000 = true := by rfl) : n ≤ sizeLine := by have := Nat.le_of_ble_eq_true h; rw [sizeLine_eq]; omega
/-- new tuples and lists -/
theorem rd_tup0 (q : ∀ p, H p = none → Q (.ref p) (upd H p (.tup []))) : tTup tNil σ H Q := ⟨ln_ok, q⟩
theorem rd_tup {n : TA} (h : n σ H fun xs H1 => xs.length ≤ sizeLine ∧ ∀ p, H1 p = none → Q (.ref p) (upd H1 p (.tup xs))) : tTup n σ H Q := h
theorem rd_lst {n : TA} (h : n σ H fun xs H1 => xs.length ≤ sizeLine ∧ ∀ p, H1 p = none → Q (.ref p) (upd H1 p (.lst xs))) : tLst n σ H Q := h
theorem rd_lst0 (q : ∀ p, H p = none → Q (.ref p) (upd H p (.lst []))) : tLst tNil σ H Q := ⟨ln_ok, q⟩
theorem rd_cons1 {QA : List V → Hp → Prop} (h : ta σ H fun a H1 => QA [a] H1) : tCons ta tNil σ H QA := h
theorem rd_cons2 {QA : List V → Hp → Prop} (h : ta σ H fun a H1 => tb σ H1 fun b H2 => QA [a, b] H2) : tCons ta (tCons tb tNil) σ H QA := h
theorem rd_cons3 {QA : List V → Hp → Prop} (h : ta σ H fun a H1 => tb σ H1 fun b H2 => tc σ H2 fun c H3 => QA [a, b, c] H3) : tCons ta (tCons tb (tCons tc tNil)) σ H QA := h
theorem rd_cons4 {QA : List V → Hp → Prop} (h : ta σ H fun a H1 => tb σ H1 fun b H2 => tc σ H2 fun c H3 => td σ H3 fun d H4 => QA [a, b, c, d] H4) : tCons ta (tCons tb (tCons tc (tCons td tNil))) σ H QA := h
theorem rd_callS2 {sp : Sp} {W : L2.St → XK} (h : ta σ H fun x H1 => tb σ H1 fun y H2 => sp [x, y] H2 Q (W σ)) : tCallS sp W (tCons ta (tCons tb tNil)) σ H Q := h
theorem rd_call4 {sp : Sp} {E : XK} (h : ta σ H fun x H1 => tb σ H1 fun y H2 => tc σ H2 fun z H3 => td σ H3 fun w H4 => sp [x, y, z, w] H4 Q E) : tCall sp [] E (tCons ta (tCons tb (tCons tc (tCons td tNil)))) σ H Q := h
theorem rd_call5 {sp : Sp} {E : XK} (h : ta σ H fun x H1 => tb σ H1 fun y H2 => tc σ H2 fun z H3 => td σ H3 fun w H4 => te σ H4 fun r H5 => sp [x, y, z, w, r] H5 Q E) : tCall sp [] E (tCons ta (tCons tb (tCons tc (tCons td (tCons te tNil))))) σ H Q := h
theorem rd_callS4 {sp : Sp} {W : L2.St → XK} (h : ta σ H fun x H1 => tb σ H1 fun y H2 => tc σ H2 fun z H3 => td σ H3 fun w H4 => sp [x, y, z, w] H4 Q (W σ)) : tCallS sp W (tCons ta (tCons tb (tCons tc (tCons td tNil)))) σ H Q := h
theorem rd_iList (h : ta σ H fun x H1 => ∃ a, x = .ref a ∧ (∃ xs, SqL K H1 a xs) ∧ R (Itl K a) H1) : iList K ta σ H R := h
theorem rd_iTup (h : ta σ H fun x H1 => ∃ a, x = .ref a ∧ (∃ xs, SqT K H1 a xs) ∧ R (Itt K a) H1) : iTup K ta σ H R := h
/-- for over the list at p, a local -/
theorem rd_listv {R : It → Hp → Prop} (hi : σ[i]? = some (some (.ref p))) (hp : H p = some (.lst xs)) (q : R (Itl K p) H) : iList K (tVar i) σ H R := ⟨_, hi, p, rfl, ⟨_, sql hp⟩, q⟩
theorem rd_tupv {R : It → Hp → Prop} (hi : σ[i]? = some (some (.ref p))) (hp : H p = some (.tup xs)) (q : R (Itt K p) H) : iTup K (tVar i) σ H R := ⟨_, hi, p, rfl, ⟨_, sqt hp⟩, q⟩
theorem rd_rngc {n : Nat} {R : It → Hp → Prop} (hn : n ≤ 100000) (q : R (Itr 0 n) H) : iRng1 (tCons (tC (.int (n : Int))) tNil) σ H R := ⟨(n : Int), rfl, by omega, by omega, q⟩
/-- x.append(e), x a local -/
theorem rd_app (hi : σ[i]? = some (some (.ref p))) (hp : H p = some (.lst xs)) (h : ta σ H fun y H2 => rAppend (.ref p) [y] H2 fun _ H3 => D.nx σ H3) : tDrop (tBM K "list" rAppend (tVar i) (tCons ta tNil)) D σ H :=
  ⟨_, hi, .inl ⟨rfl, _, sql hp⟩, h⟩
theorem rd_app' (hp : H p = some (.lst xs)) (hl : xs.length ≤ 1000000) (q : Q .non (upd H p (.lst (xs ++ [y])))) : rAppend (.ref p) [y] H Q := ⟨p, xs, y, rfl, rfl, hp, by rw [sizeLine_eq]; omega, q⟩
/-- d[y], d.get(y, z) -/
theorem rd_dget {ty : TE} (h : td σ H fun x H1 => ty σ H1 fun y H2 => ∃ a v, x = .ref a ∧ DGet H2 a y (some v) ∧ Q v H2) : tDGet td ty σ H Q := h
theorem rd_dget2 {ty tx : TE} (h : td σ H fun x H1 => ∃ a, x = .ref a ∧ IsD H1 a ∧ ty σ H1 fun y H2 => tx σ H2 fun z H3 => ∃ o, DGet H3 a y o ∧ Q (o.getD z) H3) : tDGet2 td ty tx σ H Q := h
theorem rd_dput {ty tv : TE} (h : tv σ H fun v H1 => td σ H1 fun x H2 => ty σ H2 fun y H3 => ∃ a H4, x = .ref a ∧ DPut H3 a y v H4 ∧ D.nx σ H4) : sDPut td ty tv D σ H := h
theorem rd_dnewK (q : ∀ p, H p = none → Q (.ref p) (upd H p (.dK []))) : tDNewK σ H Q := q
theorem rd_dnewT (q : ∀ p, H p = none → Q (.ref p) (upd H p (.dT []))) : tDNewT σ H Q := q
/-- for over enumerate(list) -/
theorem for_enum {a : Addr} {xs : List V} {g : TG} {tb : TS} (Pv : Nat → L2.St → Hp → Prop) (h0 : Pv 0 σ H) (hl : ∀ i σ H, i ≤ xs.length → Pv i σ H → H a = some (.lst xs))
    (hs : ∀ i x T σ H, xs[i]? = some x → Pv i σ H → H T = none → g (.ref T) σ (upd H T (.tup [.int (i : Nat), x])) fun σ2 H2 => tb { D with nx := Pv (i + 1), ct := Pv (i + 1), bk := D.nx } σ2 H2) (hd : ∀ σ H, Pv xs.length σ H → D.nx σ H) :
    ∃ W : Nat → Nat → L2.St → Hp → Prop, (∃ m, W 0 m σ H) ∧ ∀ i m σ H, W i m σ H →
      ((Ite K a).stop i H ∧ D.nx σ H) ∨ ((Ite K a).go i H ∧ ∃ N : L2.St → Hp → Prop, (∀ σ' H', N σ' H' → ∃ m', m' < m ∧ W (i + 1) m' σ' H') ∧ ∀ x H', (Ite K a).yld i H x H' → g x σ H' fun σ2 H2 => tb { D with nx := N, ct := N, bk := D.nx } σ2 H2) := by
  refine ⟨fun i m σ H => m = xs.length - i ∧ i ≤ xs.length ∧ Pv i σ H, ⟨xs.length, by simp, Nat.zero_le _, h0⟩, ?_⟩
  rintro i m σ H ⟨rfl, hi, p⟩
  have q := hl i σ H hi p
  by_cases hlt : i < xs.length
  · refine .inr ⟨⟨xs, xs[i], sql q, by simp [hlt]⟩, Pv (i + 1), fun σ' H' p' => ⟨xs.length - (i + 1), by omega, rfl, hlt, p'⟩, fun x H' y => ?_⟩
    obtain ⟨T, z, rfl, hT, rfl, hz⟩ := y
    exact hs i z T σ _ (hz xs (sql q)) p hT
  · have e : i = xs.length := by omega
    subst e
    exact .inl ⟨⟨xs, sql q, Nat.le_refl _⟩, hd σ H p⟩
end
end K65
namespace K65
open PySem PySem.Spec PyProof.Rows L2
/-! ### apply_step -/
theorem takes_no {X : Cx} : L2.Takes X (fun _ _ _ _ => False) := fun u s' x => by
  obtain ⟨a, B, sI, pn, σ, H, cls, d, e, I, nb, up, sky, na, os, ag, w⟩ := x
  exact w.elim
theorem named_good {given : List Eqn} {stages : List Stg} {b : Bool} {i : Nat} {e : Eqn} (hg : ∀ e ∈ given, GoodEq e) (hst : ∀ g ∈ stages, GoodStg g) (he : namedAt given stages b i = some e) : GoodEq e := by
  unfold namedAt at he
  split at he
  · exact hg e (List.mem_of_getElem? he)
  · cases q : stages[i]? with
    | none => rw [q] at he; cases he
    | some g =>
      rw [q] at he
      cases he
      have := hst g (List.mem_of_getElem? q)
      exact ⟨this.l, this.r⟩
theorem dep_sub : ∀ {p : List Nat} {t u : Tm}, t.sub p = some u → p.length < t.depth
  | [], t, u, _ => t.depth_pos
  | k :: r, t, u, e => by
    have e' : (t.arg k).bind (·.sub r) = some u := e
    cases q : t.arg k with
    | none => rw [q] at e'; cases e'
    | some v =>
      rw [q] at e'
      have h1 : r.length < v.depth := dep_sub e'
      have h2 := arg_depth q
      show r.length + 1 < _
      omega
theorem rd_sides {K : PySem.W.Frag} {σ : L2.St} {H : Hp} {p : Addr} {x y : V} {b : Bool} {QS : L2.St → Hp → Prop} (h5 : σ[5]? = some (some (.bl b))) (h8 : σ[8]? = some (some (.ref p))) (hp : H p = some (.tup [x, y]))
    (q : ∀ o n H3, Same H H3 → o = (if b = true then x else y) → n = (if b = true then y else x) → QS ((σ.set 9 (some o)).set 10 (some n)) H3) :
    tIf (tB (tVar 5)) (tVar 8) (tTup (tCons (tOp (rIxT K) (tVar 8) (tC (.int 1))) (tCons (tOp (rIxT K) (tVar 8) (tC (.int 0))) tNil))) σ H fun v H1 => gTup K 2 (gCons (gName 9) (gCons (gName 10) gNil)) v σ H1 QS := by
  refine rd_ite (rd_tru h5 ?_)
  cases b with
  | true => exact iteT (rd_var h8 (rd_unl2 rfl hp (q _ _ _ (Same.refl H) rfl rfl)))
  | false =>
    refine iteF (rd_tup (rd_cons2 (rd_ixTc h8 hp at1 (rd_ixTc h8 hp at0 ⟨ln_ok, fun r nr => rd_unl2 rfl upd_same (q _ _ _ (Same.new nr _) rfl rfl)⟩))))
section
variable {P : Program} {w : World} {K : PySem.W.Frag} {mg : Str → Option Value} {base : Heap}
@[irreducible] def spStep (CB : Addr) : Sp := fun vs H Q E => ∃ given stages g sl gs ss t x s sv, vs = [.ref g, .ref sl, x, sv] ∧ H g = some (.lst gs) ∧ A2 (IsEq H) given gs ∧ H sl = some (.lst ss) ∧ A2 (IsStg H) stages ss ∧
  (∀ e ∈ given, GoodEq e) ∧ (∀ s ∈ stages, GoodStg s) ∧ Big t ∧ IsTm H t x ∧ GoodStp s ∧ IsStp H s sv ∧
  (∀ r v H', stepTm given stages t s = some r → Same H H' → IsTm H' r v → Q v H') ∧ (stepTm given stages t s = none → ∀ d H', Same H H' → E (.ref CB) (some d) H')
theorem spStep.i {CB : Addr} {H : Hp} {Q : VK} {E : XK} {given : List Eqn} {stages : List Stg} {g sl : Addr} {gs ss : List V} {t : Tm} {x : V} {s : Stp} {sv : V} (h1 : H g = some (.lst gs)) (h2 : A2 (IsEq H) given gs) (h3 : H sl = some (.lst ss)) (h4 : A2 (IsStg H) stages ss)
    (h5 : ∀ e ∈ given, GoodEq e) (h6 : ∀ s ∈ stages, GoodStg s) (h7 : Big t) (h8 : IsTm H t x) (h9 : GoodStp s) (h10 : IsStp H s sv)
    (q : ∀ r v H', stepTm given stages t s = some r → Same H H' → IsTm H' r v → Q v H') (e : stepTm given stages t s = none → ∀ d H', Same H H' → E (.ref CB) (some d) H') : spStep CB [.ref g, .ref sl, x, sv] H Q E := by
  unfold spStep
  exact ⟨given, stages, g, sl, gs, ss, t, x, s, sv, rfl, h1, h2, h3, h4, h5, h6, h7, h8, h9, h10, q, e⟩
theorem c_step (T : TopF K mg) {CB fI CN : Addr} (B : BadTxt P K mg CB fI) (N : NoP K mg CN) (hne : PySem.W.exmOne K (.ref CN) (.ref CN) = some true) : Cal P w K mg base (CX 1 P w) 153 "apply_step" ["given", "stages", "term", "step"] (spStep CB) := by
  refine kx_apply_step T (fun vs H Q E h => by unfold spStep at h; obtain ⟨_, _, _, _, _, _, _, _, _, _, rfl, _⟩ := h; rfl) (fun cdv A outer s H vs Q E hr h => ?_)
  unfold spStep at h
  obtain ⟨given, stages, g, sl, gs, ss, t, x, st, sv, rfl, h1, h2, h3, h4, h5, h6, h7, h8, h9, h10, q, e⟩ := h
  have tk := takes_of (n := 1) (X := cxOf (CX 1 P w) P w K mg base ["given", "stages", "term", "step", "source", "is_forward", "position", "substitution", "equation", "old", "new", "found", "result"] "apply_step" (defScope s_apply_step) (He.ga K "apply_step") cdv A outer s H E) rfl rfl rfl rfl
  have hdp : (A.deeper (envOfC "apply_step" (defScope s_apply_step) s.heap.objs.size (He.ga K "apply_step") cdv)).depth + 1 < recursionLimit := by have := hr.dp; omega
  refine ⟨_, pss_cons (ps_asg (pv 3) (pg_tup rfl (pgs_cons (pg_name (i := 4) sc_apply_step.nd rfl (Or.inl rfl)) (pgs_cons (pg_name (i := 5) sc_apply_step.nd rfl (Or.inl rfl)) (pgs_cons (pg_name (i := 6) sc_apply_step.nd rfl (Or.inl rfl)) (pgs_cons (pg_name (i := 7) sc_apply_step.nd rfl (Or.inl rfl)) pgs_nil))))))
    (pss_cons (ps_set (i := 8) sc_apply_step.nd rfl (Or.inl rfl) (pe_cal (c_named T) (hr.mono (by omega)) rfl pass0 (pa_cons (pv 0) (pa_cons (pv 1) (pa_cons (pv 4) pa_nil)))))
    (pss_cons (ps_if (PW.pt (pw_or (pt_cmpR op_isN (pv 8) pe_non (nomark _)) (pw_or1 (pt_not (pt_val (pe_cal (c_binds T 12) (hr.mono (by omega)) rfl pass0 (pa_cons (pv 7) (pa_cons (pe_ix ix_tup (pv 8) pe_int (fun _ _ => rfl)) (pa_cons (pe_ix ix_tup (pv 8) pe_int (fun _ _ => rfl)) pa_nil)))))))))
      (pss_one (ps_raiseK rfl tk (pmk_bad B hdp (pa_cons pe_int pa_nil)).pmk)) pss_nil)
    (pss_cons (ps_asg (pe_ifExp (pt_val (pv 5)) (pv 8) (pe_tup (pa_cons (pe_ix ix_tup (pv 8) pe_int (fun _ _ => rfl)) (pa_cons (pe_ix ix_tup (pv 8) pe_int (fun _ _ => rfl)) pa_nil)))) (pg_tup rfl (pgs_cons (pg_name (i := 9) sc_apply_step.nd rfl (Or.inl rfl)) (pgs_cons (pg_name (i := 10) sc_apply_step.nd rfl (Or.inl rfl)) pgs_nil))))
    (pss_cons (ps_tryK (n := 0) (Tk := fun Y => Takes 1 Y (fun cls d _ H => E cls d H)) (c := .ref CN) (Wout := fun _ _ _ _ => False) rfl rfl ⟨rfl, by decide, .inl N.gC⟩ (L2H.passesAt_of rfl) takes_no (fun ok a q pl => takes_suite ok tk a q pl)
      (fun W pn xe tkW _ => pss_one (ps_set (i := 11) sc_apply_step.nd rfl (Or.inl rfl) (pe_calS (c_subterm T N) (hr.mono (by omega)) rfl (fun σ => passAt tkW σ) (pa_cons (pv 2) (pa_cons (pv 6) pa_nil)))))
      (fun a oe cls d pn tkS hot => pss_one (ps_raiseNK (by decide) hot tkS (pmk_bad B hdp (pa_cons pe_int pa_nil)))))
    (pss_cons (ps_if (pt_cmpR (op_neT (hu200 hr)) (pv 11) (pe_cal (c_substitute T 23) (hr.mono (by omega)) rfl pass0 (pa_cons (pv 9) (pa_cons (pv 7) pa_nil))) (nomark _)) (pss_one (ps_raiseK rfl tk (pmk_bad B hdp (pa_cons pe_int pa_nil)).pmk)) pss_nil)
    (pss_cons (ps_set (i := 12) sc_apply_step.nd rfl (Or.inl rfl) (pe_cal (c_replace T 121) (hr.mono (by omega)) rfl pass0 (pa_cons (pv 2) (pa_cons (pv 6) (pa_cons (pe_cal (c_substitute T 23) (hr.mono (by omega)) rfl pass0 (pa_cons (pv 10) (pa_cons (pv 7) pa_nil))) pa_nil)))))
    (pss_cons (ps_if (pt_val (pe_cal (c_wide T 150) hr rfl pass0 (pa_cons (pv 12) pa_nil))) (pss_one (ps_raiseK rfl tk (pmk_bad B hdp (pa_cons pe_int pa_nil)).pmk)) pss_nil)
    (pss_one (ps_ret (pv 12)))))))))), ?_⟩
  obtain ⟨p, qa, rp, d, kvs, rfl, hp, hq, hrp, hd, hsub⟩ := h10
  refine rd_seq (rd_asg (rd_var rfl (rd_unl4 rfl hp ?_)))
  refine rd_nx (rd_let (rd_call3 (rd_var rfl (rd_var rfl (rd_var rfl (spNamed.i h1 h2 h3 h4 hq fun v H1 s1 hv => ?_))))))
  have bad : ∀ (H2 : Hp), Same H H2 → stepTm given stages t st = none → ∀ {σ : L2.St} , tMkBad CB (tCons (tC (.int 0)) tNil) σ H2 (fun cls d H' => E cls d H') := fun H2 s2 hn σ =>
    ⟨_, rfl, fun d nd => e hn d _ (s2.trans (Same.new nd _))⟩
  refine rd_when1 (rd_or (rd_test (rd_isN rfl ⟨_, rfl, ?_⟩)))
  cases hna : namedAt given stages st.giv st.idx with
  | none =>
    rw [hna] at hv
    rw [decide_eq_true (show v = .non from hv)]
    refine iteT (iteT (bad H1 s1 ?_))
    unfold stepTm
    rw [hna]
  | some eqn =>
    rw [hna] at hv
    have ge := named_good h5 h6 hna
    obtain ⟨pe', x', y', rfl, he1, hl, hrr⟩ := hv
    rw [decide_eq_false (show ¬ V.ref pe' = .non from fun z => by cases z)]
    refine iteF (rd_not (rd_B (rd_call3 (rd_var rfl (rd_ixTc rfl he1 at0 (rd_ixTc rfl he1 at1 (spBinds.i ge.1.d (Nat.le_trans ge.1.z (by decide)) ge.2.d (Nat.le_trans ge.2.z (by decide)) ge.1.vl ge.2.vl h9.1 (s1 _ _ hd) (hsub.mono (Tups.same s1)) hl hrr fun H2 s2 => ⟨_, rfl, ?_⟩)))))))
    cases hb : bindsB st.sub eqn.1 eqn.2 with
    | false => exact iteT (bad H2 (s1.trans s2) (by simp [stepTm, hna, hb]))
    | true =>
    refine iteF ?_
    have s02 := s1.trans s2
    refine rd_seq (rd_asg (rd_sides rfl rfl (s2 _ _ he1) fun o n H3 s3 ho hn => ?_))
    have io : IsTm H3 (sideO eqn st.fwd) o := by
      rw [ho]
      unfold sideO
      cases st.fwd with
      | true => exact hl.mono (Tups.same (s2.trans s3))
      | false => exact hrr.mono (Tups.same (s2.trans s3))
    have inn : IsTm H3 (sideO eqn !st.fwd) n := by
      rw [hn]
      unfold sideO
      cases st.fwd with
      | true => exact hrr.mono (Tups.same (s2.trans s3))
      | false => exact hl.mono (Tups.same (s2.trans s3))
    have lo := lim_side ge st.fwd
    have ln := lim_side ge !st.fwd
    have s03 := s02.trans s3
    have tx : ∀ b : Bool, ((sideO eqn b).subst st.sub).texts := fun b => texts_subst (lim_side ge b).tx fun p hp => (h9.2 p hp).tx
    have dx : ∀ b : Bool, ((sideO eqn b).subst st.sub).depth ≤ 24 := fun b => by
      have a := depth_subst (s := st.sub) (d := 12) (fun p hp => (h9.2 p hp).d) (sideO eqn b)
      have c := (lim_side ge b).d
      omega
    refine rd_nx (rd_seq (rd_set (rd_callS2 (rd_var rfl (rd_var rfl (spSub.i (h8.mono (Tups.same s03)) (s03 _ _ hrp) (fun u y hu iu => rd_nx ?_) fun hn0 => ?_))))))
    · have hdu := sub_depth hu
      have hzu := sub_size hu
      have tu : u.texts := fun k hk => h7.tx k (syms_sub hu hk)
      refine rd_when1 (rd_test (rd_op (rd_var rfl (rd_call2 (rd_var rfl (rd_var rfl (spSubst.i (n := 23) (by have := lo.d; omega) (by have := lo.z; omega) io (s03 _ _ hd) (hsub.mono (Tups.same s03)) fun z H4 s4 hz => ⟨u, (sideO eqn st.fwd).subst st.sub, iu.mono (Tups.same s4), hz, tu, tx _, by have := h7.d; omega, _, rfl, ?_⟩)))))))
      by_cases hue : u = (sideO eqn st.fwd).subst st.sub
      · rw [decide_eq_true hue]
        refine iteF (rd_let (rd_call3 (rd_var rfl (rd_var rfl (rd_call2 (rd_var rfl (rd_var rfl (spSubst.i (n := 23) (by have := ln.d; omega) (by have := ln.z; omega) (inn.mono (Tups.same s4)) (s4 _ _ (s03 _ _ hd)) (hsub.mono (Tups.same (s03.trans s4))) fun z2 H5 s5 hz2 => ?_))))))))
        have s05 := (s03.trans s4).trans s5
        refine spRepl.i (by have := h7.d; omega) (Nat.le_trans h7.z (by decide)) (h8.mono (Tups.same s05)) (s05 _ _ hrp) hz2 (by rw [hu]; simp) fun z3 H6 s6 hz3 => ?_
        have dr := depth_repl (u := (sideO eqn !st.fwd).subst st.sub) st.pos t
        refine rd_when1 (rd_B (rd_call1 (rd_var rfl (spWide.i hz3 (by have := dx !st.fwd; have := h7.d; omega) fun H7 s7 => ⟨_, rfl, ?_⟩))))
        have s07 := (s05.trans s6).trans s7
        cases hw : (t.repl st.pos ((sideO eqn !st.fwd).subst st.sub)).wide with
        | true => exact iteT (bad H7 s07 (by simp [stepTm, hna, hb, hu, hue, hw]))
        | false => exact iteF (rd_ret (rd_var rfl (q _ _ _ (by simp [stepTm, hna, hb, hu, hue, hw]) s07 (hz3.mono (Tups.same s7)))))
      · rw [decide_eq_false hue]
        exact iteT (bad H4 (s03.trans s4) (by simp [stepTm, hna, hb, hu, hue]))
    · exact ⟨true, hne, fun _ a ha => bad H3 s03 (by simp [stepTm, hna, hb, hn0]), fun z => by cases z⟩
end
end K65
namespace K65
open PySem PySem.Spec PyProof.Rows L2
/-! ### visited, leads, is_derivation -/
theorem visit_cons {given : List Eqn} {stages : List Stg} {t : Tm} {steps : List Stp} {i : Nat} {s : Stp} (h : steps[i]? = some s) : visit given stages t (steps.drop i) = (stepTm given stages t s).bind fun u => visit given stages u (steps.drop (i + 1)) := by
  obtain ⟨hi, e⟩ := List.getElem?_eq_some_iff.mp h
  rw [List.drop_eq_getElem_cons hi, e]
  rfl
theorem visit_big {given : List Eqn} {stages : List Stg} (hg : ∀ e ∈ given, GoodEq e) (hst : ∀ g ∈ stages, GoodStg g) : ∀ {steps : List Stp} {t u : Tm}, (∀ s ∈ steps, GoodStp s) → Big t → visit given stages t steps = some u → Big u
  | [], t, u, _, b, e => by cases e; exact b
  | s :: r, t, u, hs, b, e => by
    have e' : (stepTm given stages t s).bind (fun u => visit given stages u r) = some u := e
    cases q : stepTm given stages t s with
    | none => rw [q] at e'; cases e'
    | some v =>
      rw [q] at e'
      exact visit_big hg hst (fun p hp => hs p (List.mem_cons_of_mem _ hp)) (step_big hg hst (hs s List.mem_cons_self) b q) e'
section
variable {P : Program} {w : World} {K : PySem.W.Frag} {mg : Str → Option Value} {base : Heap}
/-- what lies of the given equations and the stages -/
structure Lay (H : Hp) (given : List Eqn) (stages : List Stg) (g sl : Addr) : Prop where
  ex : ∃ gs ss, H g = some (.lst gs) ∧ A2 (IsEq H) given gs ∧ H sl = some (.lst ss) ∧ A2 (IsStg H) stages ss
  g : ∀ e ∈ given, GoodEq e
  s : ∀ s ∈ stages, GoodStg s
theorem Lay.mono {H H' : Hp} {given : List Eqn} {stages : List Stg} {g sl : Addr} (s : Same H H') (h : Lay H given stages g sl) : Lay H' given stages g sl := by
  obtain ⟨⟨gs, ss, h1, h2, h3, h4⟩, h5, h6⟩ := h
  exact ⟨⟨gs, ss, s _ _ h1, h2.eqs (Tups.same s), s _ _ h3, h4.stgs s⟩, h5, h6⟩
@[irreducible] def spVisit (CB : Addr) : Sp := fun vs H Q E => ∃ given stages g sl t x steps p ss, vs = [.ref g, .ref sl, x, .ref p] ∧ Lay H given stages g sl ∧ Big t ∧ IsTm H t x ∧ H p = some (.lst ss) ∧ A2 (IsStp H) steps ss ∧ steps.length ≤ 1000 ∧ (∀ s ∈ steps, GoodStp s) ∧
  (∀ r q ys v H', visit given stages t steps = some r → Same H H' → H' q = some (.lst (ys ++ [v])) → IsTm H' r v → Q (.ref q) H') ∧ (visit given stages t steps = none → ∀ d H', Same H H' → E (.ref CB) (some d) H')
theorem spVisit.i {CB : Addr} {H : Hp} {Q : VK} {E : XK} {given : List Eqn} {stages : List Stg} {g sl : Addr} {t : Tm} {x : V} {steps : List Stp} {p : Addr} {ss : List V} (h1 : Lay H given stages g sl) (h2 : Big t) (h3 : IsTm H t x) (h4 : H p = some (.lst ss)) (h5 : A2 (IsStp H) steps ss) (h6 : steps.length ≤ 1000) (h7 : ∀ s ∈ steps, GoodStp s)
    (q : ∀ r q ys v H', visit given stages t steps = some r → Same H H' → H' q = some (.lst (ys ++ [v])) → IsTm H' r v → Q (.ref q) H') (e : visit given stages t steps = none → ∀ d H', Same H H' → E (.ref CB) (some d) H') : spVisit CB [.ref g, .ref sl, x, .ref p] H Q E := by
  unfold spVisit
  exact ⟨given, stages, g, sl, t, x, steps, p, ss, rfl, h1, h2, h3, h4, h5, h6, h7, q, e⟩
theorem c_visited (T : TopF K mg) {CB fI CN : Addr} (B : BadTxt P K mg CB fI) (N : NoP K mg CN) (hne : PySem.W.exmOne K (.ref CN) (.ref CN) = some true) : Cal P w K mg base (CX 2 P w) 154 "visited" ["given", "stages", "term", "steps"] (spVisit CB) := by
  refine kx_visited T (fun vs H Q E h => by unfold spVisit at h; obtain ⟨_, _, _, _, _, _, _, _, _, rfl, _⟩ := h; rfl) (fun cdv A outer s H vs Q E hr h => ?_)
  unfold spVisit at h
  obtain ⟨given, stages, g, sl, t, x, steps, p, ss, rfl, h1, h2, h3, h4, h5, h6, h7, q, e⟩ := h
  have tk := takes_of (n := 2) (X := cxOf (CX 2 P w) P w K mg base ["given", "stages", "term", "steps", "terms", "number", "step"] "visited" (defScope s_visited) (He.ga K "visited") cdv A outer s H E) rfl rfl rfl rfl
  have hdp : (A.deeper (envOfC "visited" (defScope s_visited) s.heap.objs.size (He.ga K "visited") cdv)).depth + 1 < recursionLimit := by have := hr.dp; omega
  refine ⟨_, pss_cons (ps_set (i := 4) sc_visited.nd rfl (Or.inl rfl) (pe_lst (pa_cons (pv 2) pa_nil)))
    (pss_cons (ps_for (L2.passes_of rfl) rfl (pi_enum rfl T.z_enumerate (pa_cons (pv 3) pa_nil)) (pg_tup rfl (pgs_cons (pg_name (i := 5) sc_visited.nd rfl (Or.inl rfl)) (pgs_cons (pg_name (i := 6) sc_visited.nd rfl (Or.inl rfl)) pgs_nil)))
      (pss_cons (ps_tryK (n := 1) (Tk := fun Y => Takes 2 Y (fun cls d _ H => E cls d H)) (c := .ref CB) (Wout := fun _ _ _ _ => False) rfl rfl ⟨rfl, by decide, .inl B.gC⟩ (L2H.passesAt_of rfl) takes_no (fun ok a q pl => takes_suite ok tk a q pl)
        (fun W pn xe tkW _ => pss_one (ps_set (i := 2) sc_visited.nd rfl (Or.inl rfl) (pe_calS (c_step T B N hne) hr rfl (fun σ => passAt tkW σ) (pa_cons (pv 0) (pa_cons (pv 1) (pa_cons (pv 2) (pa_cons (pv 6) pa_nil)))))))
        (fun a oe cls d pn tkS hot => pss_one (ps_raiseNK (by decide) hot tkS (pmk_bad B hdp (pa_cons (pv 5) pa_nil)))))
      (pss_one (ps_expr (pe_bm PySem.F.plainAttrs_list PySem.F.slot_list_append PySem.F.type_list_append mt_append (pv 4) (pa_cons (pv 2) pa_nil))))))
    (pss_one (ps_ret (pv 4)))), ?_⟩
  refine rd_let (rd_lst (rd_cons1 (rd_var rfl ⟨ln_ok, fun a na => ?_⟩)))
  have s0 : Same H (upd H a (.lst [x])) := Same.new na _
  refine rd_seq (rd_for (rd_cons1 (rd_var rfl ⟨p, ss, rfl, sql (s0 _ _ h4), ?_⟩)))
  refine for_enum (K := K) (a := p) (xs := ss) (fun i σ H' => ∃ t' x' ys z5 z6, σ = [some (.ref g), some (.ref sl), some x', some (.ref p), some (.ref a), z5, z6] ∧ Same H H' ∧ H' a = some (.lst (ys ++ [x'])) ∧ ys.length = i ∧ IsTm H' t' x' ∧ Big t' ∧ visit given stages t steps = visit given stages t' (steps.drop i))
    ⟨t, x, [], _, _, rfl, s0, upd_same, rfl, h3.mono (Tups.same s0), h2, rfl⟩ (fun i σ H' _ hh => ?_) ?_ ?_
  · obtain ⟨t', x', ys, z5, z6, rfl, s1, _⟩ := hh
    exact s1 _ _ h4
  · rintro i sv T' σ H' hi ⟨t', x', ys, z5, z6, rfl, s1, hla, hlen, ht', hb', hv'⟩ nT
    obtain ⟨st, hst, ist⟩ := h5.get hi
    have hgs := h7 st (List.mem_of_getElem? hst)
    have hvc := hv'.trans (visit_cons hst)
    have hi' : i < steps.length := (List.getElem?_eq_some_iff.mp hst).1
    have s2 : Same H' (upd H' T' (.tup [.int ((i : Nat) : Int), sv])) := Same.new nT _
    have s02 := s1.trans s2
    refine rd_unl2 rfl upd_same ?_
    obtain ⟨⟨gs, ss', g1, g2, g3, g4⟩, g5, g6⟩ := h1.mono s02
    refine rd_seq (rd_set (rd_callS4 (rd_var rfl (rd_var rfl (rd_var rfl (rd_var rfl (spStep.i g1 g2 g3 g4 g5 g6 hb' (ht'.mono (Tups.same s2)) hgs (ist.mono s02) (fun r v H3 hr3 s3 hv3 => rd_nx ?_) fun hn d0 H3 s3 => ?_)))))))
    · have h3a := s3 _ _ (s2 _ _ hla)
      refine rd_app rfl h3a (rd_var rfl (rd_app' h3a (by rw [List.length_append, hlen]; simp; omega) ⟨r, v, ys ++ [x'], _, _, rfl, Same.mut (s02.trans s3) na, upd_same, by rw [List.length_append, hlen]; rfl, hv3.mono (tups_lst h3a), step_big g5 g6 hgs hb' hr3, ?_⟩))
      rw [hvc, hr3]
      rfl
    · refine ⟨true, B.te, fun _ a' ha' => ?_, fun z => by cases z⟩
      refine ⟨_, rfl, _, rfl, fun d nd => e (by rw [hvc, hn]; rfl) d _ ((s02.trans s3).trans (Same.new nd _))⟩
  · rintro σ H' ⟨t', x', ys, z5, z6, rfl, s1, hla, hlen, ht', hb', hv'⟩
    refine rd_nx (rd_ret (rd_var rfl (q t' a ys x' H' ?_ s1 hla ht')))
    rw [hv', h5.len, List.drop_length]
    rfl
end
end K65
namespace K65
open PySem PySem.Spec PyProof.Rows L2
/-! ### leads, is_derivation -/
/-- the derivation of the equation l = r -/
def derivB (given : List Eqn) (l r : Tm) (stages : List Stg) : Bool := match stages.getLast? with
  | none => false
  | some s => derB given [] stages && (decide (s.l = l) && decide (s.r = r))
theorem GoodStg.dbl {s : Stg} (h : GoodStg s) : Big s.l ∧ Big s.r := ⟨h.l.big, h.r.big⟩
section
variable {P : Program} {w : World} {K : PySem.W.Frag} {mg : Str → Option Value} {base : Heap}
@[irreducible] def spLeads : Sp := fun vs H Q _ => ∃ given stages g sl st x y p ss, vs = [.ref g, .ref sl, x, y, .ref p] ∧ Lay H given stages g sl ∧ GoodStg st ∧ IsTm H st.l x ∧ IsTm H st.r y ∧ H p = some (.lst ss) ∧ A2 (IsStp H) st.steps ss ∧
  ∀ H', Same H H' → Q (.bl (leadsB given stages st)) H'
theorem spLeads.i {H : Hp} {Q : VK} {E : XK} {given : List Eqn} {stages : List Stg} {g sl : Addr} {st : Stg} {x y : V} {p : Addr} {ss : List V} (h1 : Lay H given stages g sl) (h2 : GoodStg st) (h3 : IsTm H st.l x) (h4 : IsTm H st.r y) (h5 : H p = some (.lst ss)) (h6 : A2 (IsStp H) st.steps ss)
    (q : ∀ H', Same H H' → Q (.bl (leadsB given stages st)) H') : spLeads [.ref g, .ref sl, x, y, .ref p] H Q E := by
  unfold spLeads
  exact ⟨given, stages, g, sl, st, x, y, p, ss, rfl, h1, h2, h3, h4, h5, h6, q⟩
theorem c_leads (T : TopF K mg) {CB fI CN : Addr} (B : BadTxt P K mg CB fI) (N : NoP K mg CN) (hne : PySem.W.exmOne K (.ref CN) (.ref CN) = some true) : Cal P w K mg base CX0 155 "leads" ["given", "stages", "start", "end", "steps"] spLeads := by
  refine k_leads T (fun vs H Q E h => by unfold spLeads at h; obtain ⟨_, _, _, _, _, _, _, _, _, rfl, _⟩ := h; rfl) (fun cdv A outer s H vs Q E hr h => ?_)
  unfold spLeads at h
  obtain ⟨given, stages, g, sl, st, x, y, p, ss, rfl, h1, h2, h3, h4, h5, h6, q⟩ := h
  refine ⟨_, pss_cons (ps_try_only (c := .ref CB) (Wout := fun _ _ _ _ => False) rfl rfl ⟨rfl, by decide, .inl B.gC⟩ takes_no
      (fun W pn xe tkW _ => pss_one (ps_set (i := 5) sc_leads.nd rfl (Or.inl rfl) (pe_calS (c_visited T B N hne) hr rfl (fun σ => passAt (takes_k tkW) σ) (pa_cons (pv 0) (pa_cons (pv 1) (pa_cons (pv 2) (pa_cons (pv 4) pa_nil)))))))
      (fun a oe cls d pn _ _ => pss_one (ps_ret pe_bl)))
    (pss_one (ps_ret (pe_cmpR (op_eqT (hu200 hr)) (pe_ix ix_list (pv 5) (pe_un un_neg pe_int) (fun _ _ => rfl)) (pv 3) (nomark _)))), ?_⟩
  refine rd_seq (rd_set (rd_callS4 (rd_var rfl (rd_var rfl (rd_var rfl (rd_var rfl (spVisit.i h1 h2.l.big h3 h5 h6 h2.n h2.st (fun r a ys v H1 hv s1 ha hrv => rd_nx ?_) fun hn d0 H1 s1 => ?_)))))))
  · refine rd_ret (rd_op (rd_lastL rfl ha (rd_var rfl ⟨r, st.r, hrv, h4.mono (Tups.same s1), ?_⟩)))
    have b := visit_big h1.g h1.s h2.st h2.l.big hv
    refine ⟨b.tx, h2.r.tx, Nat.le_trans b.d (by decide), ?_⟩
    have z := q H1 s1
    unfold leadsB at z
    rw [hv] at z
    exact z
  · refine ⟨true, B.te, fun _ a' ha' => ?_, fun z => by cases z⟩
    have z := q H1 s1
    unfold leadsB at z
    rw [hn] at z
    exact rd_ret (rd_c z)
theorem derB_app {given : List Eqn} : ∀ {a b : List Stg} {e : List Stg}, derB given e (a ++ b) = (derB given e a && derB given (e ++ a) b)
  | [], b, e => by simp [derB]
  | s :: a, b, e => by
    show (leadsB given e s && derB given (e ++ [s]) (a ++ b)) = (leadsB given e s && derB given (e ++ [s]) a && _)
    rw [derB_app, List.append_assoc, Bool.and_assoc]
    rfl
@[irreducible] def spDer : Sp := fun vs H Q _ => ∃ given stages g sl l r x y, vs = [.ref g, x, y, .ref sl] ∧ Lay H given stages g sl ∧ stages.length ≤ 1000 ∧ IsTm H l x ∧ IsTm H r y ∧ l.texts ∧ r.texts ∧
  ∀ H', Same H H' → Q (.bl (derivB given l r stages)) H'
theorem spDer.i {H : Hp} {Q : VK} {E : XK} {given : List Eqn} {stages : List Stg} {g sl : Addr} {l r : Tm} {x y : V} (h1 : Lay H given stages g sl) (h2 : stages.length ≤ 1000) (h3 : IsTm H l x) (h4 : IsTm H r y) (h5 : l.texts) (h6 : r.texts)
    (q : ∀ H', Same H H' → Q (.bl (derivB given l r stages)) H') : spDer [.ref g, x, y, .ref sl] H Q E := by
  unfold spDer
  exact ⟨given, stages, g, sl, l, r, x, y, rfl, h1, h2, h3, h4, h5, h6, q⟩
theorem c_der (T : TopF K mg) {CB fI CN : Addr} (B : BadTxt P K mg CB fI) (N : NoP K mg CN) (hne : PySem.W.exmOne K (.ref CN) (.ref CN) = some true) : Cal P w K mg base CX0 156 "is_derivation" ["given", "left", "right", "stages"] spDer := by
  refine k_is_derivation T (fun vs H Q E h => by unfold spDer at h; obtain ⟨_, _, _, _, _, _, _, _, rfl, _⟩ := h; rfl) (fun cdv A outer s H vs Q E hr h => ?_)
  unfold spDer at h
  obtain ⟨given, stages, g, sl, l, r, x, y, rfl, h1, h2, h3, h4, h5, h6, q⟩ := h
  refine ⟨_, pss_cons (ps_if (pt_cmpR op_eq (pe_callB call_len rfl T.z_len (by decide +kernel) (pa_cons (pv 3) pa_nil)) pe_int (nomark _)) (pss_one (ps_ret pe_bl)) pss_nil)
    (pss_cons (ps_set (i := 4) sc_is_derivation.nd rfl (Or.inl rfl) (pe_lst pa_nil))
    (pss_cons (ps_for PassesOwn.never rfl (pi_list (pv 3)) (pg_name (i := 5) sc_is_derivation.nd rfl (Or.inl rfl))
      (pss_cons (ps_if (pt_not (pt_val (pe_cal (c_leads T B N hne) hr rfl pass0 (pa_cons (pv 0) (pa_cons (pv 4) (pa_cons (pe_ix ix_tup (pv 5) pe_int (fun _ _ => rfl)) (pa_cons (pe_ix ix_tup (pv 5) pe_int (fun _ _ => rfl)) (pa_cons (pe_ix ix_tup (pv 5) pe_int (fun _ _ => rfl)) pa_nil)))))))) (pss_one (ps_ret pe_bl)) pss_nil)
      (pss_one (ps_expr (pe_bm PySem.F.plainAttrs_list PySem.F.slot_list_append PySem.F.type_list_append mt_append (pv 4) (pa_cons (pv 5) pa_nil))))))
    (pss_one (ps_ret (pe_and (pe_cmpR (op_eqT (hu200 hr)) (pe_ix ix_tup (pe_ix ix_list (pv 3) (pe_un un_neg pe_int) (fun _ _ => rfl)) pe_int (fun _ _ => rfl)) (pv 1) (nomark _)) (pe_one (pe_cmpR (op_eqT (hu200 hr)) (pe_ix ix_tup (pe_ix ix_list (pv 3) (pe_un un_neg pe_int) (fun _ _ => rfl)) pe_int (fun _ _ => rfl)) (pv 2) (nomark _)))))))), ?_⟩
  obtain ⟨⟨gs, ss, g1, g2, g3, g4⟩, g5, g6⟩ := id h1
  have hlen := g4.len
  refine rd_when1 (rd_test (rd_op (rd_B1 (rd_var rfl ⟨_, _, rfl, .inl ⟨_, sql g3, rfl⟩, ⟨rfl, _, rfl, ?_⟩⟩))))
  cases hs : stages with
  | nil =>
    subst hs
    have e : ss = [] := g4
    subst e
    exact iteT (rd_ret (rd_c (q H (Same.refl H))))
  | cons s0 sr =>
    rw [decide_eq_false (show ¬ V.int ((ss.length : Nat) : Int) = .int 0 from fun z => by
      have z := V.int.inj z
      rw [hlen, hs, List.length_cons] at z
      omega)]
    have hne0 : stages ≠ [] := by rw [hs]; simp
    clear hs
    refine iteF (rd_let (rd_lst0 fun a na => ?_))
    have s0 : Same H (upd H a (.lst [])) := Same.new na _
    refine rd_seq (rd_for (rd_listv rfl (s0 _ _ g3) ?_))
    refine for_list (K := K) (a := sl) (xs := ss) (fun i σ H' => ∃ z5, σ = [some (.ref g), some x, some y, some (.ref sl), some (.ref a), z5] ∧ Same H H' ∧ H' a = some (.lst (ss.take i)) ∧ derB given [] (stages.take i) = true)
      ⟨_, rfl, s0, upd_same, rfl⟩ (fun i σ H' _ hh => ?_) ?_ ?_
    · obtain ⟨z5, rfl, s1, _⟩ := hh
      exact sql (s1 _ _ g3)
    · rintro i sv σ H' hi ⟨z5, rfl, s1, hla, hd⟩
      obtain ⟨st, hst, ist⟩ := g4.get hi
      have hgs := g6 st (List.mem_of_getElem? hst)
      obtain ⟨p, u, v, qa, us, rfl, i1, i2, i3, i4, i5⟩ := ist.mono s1
      have tk' := take_succ' hst
      have e1 : derB given [] (stages.take (i + 1)) = leadsB given (stages.take i) st := by
        rw [tk', derB_app, hd]
        simp [derB]
      have hi' : i < stages.length := (List.getElem?_eq_some_iff.mp hst).1
      have lay : Lay H' given (stages.take i) g a := ⟨⟨gs, ss.take i, s1 _ _ g1, g2.eqs (Tups.same s1), hla, (g4.stgs s1).take i⟩, g5, fun s hs => g6 s (List.mem_of_mem_take hs)⟩
      refine rd_name (rd_when1 (rd_not (rd_B (rd_call5 (rd_var rfl (rd_var rfl (rd_ixTc rfl i1 at0 (rd_ixTc rfl i1 at1 (rd_ixTc rfl i1 at2 (spLeads.i lay hgs i2 i3 i4 i5 fun H2 s2 => ⟨_, rfl, ?_⟩))))))))))
      cases hl : leadsB given (stages.take i) st with
      | false =>
        refine iteT (rd_ret (rd_c ?_))
        have z := q H2 (s1.trans s2)
        have e2 : derB given [] stages = false := by
          rw [← List.take_append_drop (i + 1) stages, derB_app, e1, hl]
          rfl
        have e3 : derivB given l r stages = false := by
          unfold derivB
          cases stages.getLast? with
          | none => rfl
          | some s => rw [e2]; rfl
        rw [e3] at z
        exact z
      | true =>
        refine iteF ?_
        have h2a := s2 _ _ hla
        refine rd_app rfl h2a (rd_var rfl (rd_app' h2a (by rw [List.length_take, hlen]; omega) ⟨_, rfl, Same.mut (s1.trans s2) na, ?_, e1.trans hl⟩))
        rw [upd_same, take_succ' hi]
    · rintro σ H' ⟨z5, rfl, s1, hla, hd⟩
      rw [hlen, List.take_length] at hd
      have he : derivB given l r stages = (decide ((stages.getLast hne0).l = l) && decide ((stages.getLast hne0).r = r)) := by
        unfold derivB
        rw [List.getLast?_eq_some_getLast hne0]
        dsimp only
        rw [hd]
        rfl
      have hst : stages[stages.length - 1]? = some (stages.getLast hne0) := by
        rw [← List.getLast?_eq_getElem?, List.getLast?_eq_some_getLast hne0]
      obtain ⟨sv, hsv, ist⟩ := g4.nth hst
      have hgs := g6 _ (List.getLast_mem hne0)
      obtain ⟨p, u, v, qa, us, rfl, i1, i2, i3, i4, i5⟩ := ist.mono s1
      have hss : ss = ss.dropLast ++ [.ref p] := by
        have hn : ss ≠ [] := fun z => by
          have := hlen
          rw [z] at this
          exact hne0 (List.eq_nil_of_length_eq_zero this.symm)
        rw [← hlen, ← List.getLast?_eq_getElem?, List.getLast?_eq_some_getLast hn] at hsv
        have := List.dropLast_concat_getLast hn
        rw [Option.some.inj hsv] at this
        exact this.symm
      have g3' : H' sl = some (.lst (ss.dropLast ++ [.ref p])) := by rw [← hss]; exact s1 _ _ g3
      refine rd_nx (rd_ret ?_)
      refine rd_op (rd_ixT (rd_lastL rfl g3' ⟨p, _, 0, u, rfl, rfl, sqt i1, at0, rd_var rfl ⟨_, l, i2, h3.mono (Tups.same s1), hgs.l.tx, h5, Nat.le_trans hgs.l.d (by decide), _, rfl, ?_⟩⟩))
      have z := q H' s1
      rw [he] at z
      cases hl : decide ((stages.getLast hne0).l = l) with
      | false => rw [hl] at z; exact iteF z
      | true =>
        rw [hl] at z
        refine iteT (rd_op (rd_ixT (rd_lastL rfl g3' ⟨p, _, 1, v, rfl, rfl, sqt i1, at1, rd_var rfl ⟨_, r, i3, h4.mono (Tups.same s1), hgs.r.tx, h6, Nat.le_trans hgs.r.d (by decide), ?_⟩⟩)))
        exact z
end
end K65
namespace K65
open PySem PySem.Spec PyProof.Rows L2
/-! ### models: value -/
mutual
def Tm.val (I : Str → List Int → Int) (ρ : Int → Int) : Tm → Int
  | .v n => ρ n
  | .a f as => I f (Tm.vals I ρ as)
def Tm.vals (I : Str → List Int → Int) (ρ : Int → Int) : List Tm → List Int
  | [] => []
  | t :: r => t.val I ρ :: Tm.vals I ρ r
end
theorem vals_map (I : Str → List Int → Int) (ρ : Int → Int) : ∀ ts : List Tm, Tm.vals I ρ ts = ts.map (Tm.val I ρ)
  | [] => rfl
  | t :: r => by simp only [Tm.vals, List.map_cons, vals_map I ρ r]
structure Mdl where
  sz : Nat
  fs : List Str
  I : Str → List Int → Int
/-- a table that lies -/
def IsTab (H : Hp) (g : List Int → Int) (v : V) : Prop := ∃ td tvs, v = .ref td ∧ H td = some (.dT tvs) ∧ ∀ args : List Int, (valV tvs (args.map (Sum.inl : Int → Key))).getD (.int 0) = .int (g args)
def IsMod (H : Hp) (M : Mdl) (v : V) : Prop := ∃ p d kvs, v = .ref p ∧ H p = some (.tup [.int (M.sz : Int), .ref d]) ∧ H d = some (.dK kvs) ∧ ∀ f ∈ M.fs, ∃ x, valV kvs (.inr f) = some x ∧ IsTab H (M.I f) x
theorem IsMod.mono {H H' : Hp} (s : Same H H') {M : Mdl} {v : V} (h : IsMod H M v) : IsMod H' M v := by
  obtain ⟨p, d, kvs, e, h1, h2, h3⟩ := h
  refine ⟨p, d, kvs, e, s _ _ h1, s _ _ h2, fun f hf => ?_⟩
  obtain ⟨x, e1, td, tvs, e2, h4, h5⟩ := h3 f hf
  exact ⟨x, e1, td, tvs, e2, s _ _ h4, h5⟩
/-- the names of t are names of fs -/
def Tm.ofs (fs : List Str) (t : Tm) : Prop := ∀ f : Str, (.inr f : Key) ∈ t.syms → f ∈ fs
/-- an assignment -/
abbrev Asg := List (Int × Int)
def look (ρ : Asg) (n : Int) : Int := (ρ.lookup n).getD 0
def kvA (ρ : Asg) : List (Key × V) := ρ.map fun p => ((.inl p.1 : Key), V.int p.2)
theorem valV_kvA {n : Int} : ∀ {ρ : Asg}, valV (kvA ρ) (.inl n : Key) = (ρ.lookup n).map V.int
  | [] => rfl
  | (m, x) :: r => by
    by_cases e : n = m
    · subst e
      rw [show kvA ((n, x) :: r) = ((.inl n : Key), V.int x) :: kvA r from rfl, valV_pos rfl]
      simp [List.lookup]
    · have e1 : (n == m) = false := by simpa using e
      have e2 : ¬ (.inl m : Key) = .inl n := fun z => e (Sum.inl.inj z).symm
      rw [show kvA ((m, x) :: r) = ((.inl m : Key), V.int x) :: kvA r from rfl, valV_neg (p := ((.inl m : Key), V.int x)) e2, valV_kvA]
      simp [List.lookup, e1]
theorem lookup_has {n : Int} : ∀ {ρ : Asg}, n ∈ ρ.map (·.1) → ρ.lookup n = some (look ρ n)
  | [], h => by cases h
  | (m, x) :: r, h => by
    by_cases e : n = m
    · subst e; simp [look, List.lookup]
    · have e1 : (n == m) = false := by simpa using e
      have h' : n ∈ r.map (·.1) := (List.mem_cons.mp h).resolve_left e
      have := lookup_has h'
      simp only [look, List.lookup, e1] at this ⊢
      exact this
theorem vars_syms {t : Tm} {ks : List Int} : (∀ n ∈ t.vars, n ∈ ks) ↔ ∀ n : Int, (.inl n : Key) ∈ t.syms → n ∈ ks :=
  ⟨fun h n hn => h n (Tm.mem_vars.mpr hn), fun h n hn => h n (Tm.mem_vars.mp hn)⟩
theorem syms_args {f : Str} {as : List Tm} {u : Tm} {i : Nat} {k : Key} (h : as[i]? = some u) (hk : k ∈ u.syms) : k ∈ (Tm.a f as).syms :=
  syms_arg (t := .a f as) (j := i + 1) h hk
section
variable {P : Program} {w : World} {K : PySem.W.Frag} {mg : Str → Option Value} {base : Heap}
@[irreducible] def spVal (n : Nat) : Sp := fun vs H Q _ => ∃ M m t x d ρ, vs = [m, x, .ref d] ∧ IsMod H M m ∧ IsTm H t x ∧ t.depth ≤ n ∧ t.size ≤ 100000 ∧ t.ofs M.fs ∧ H d = some (.dK (kvA ρ)) ∧ (∀ n : Int, (.inl n : Key) ∈ t.syms → n ∈ ρ.map (·.1)) ∧
  ∀ H', Same H H' → Q (.int (t.val M.I (look ρ))) H'
theorem spVal.i {n : Nat} {H : Hp} {Q : VK} {E : XK} {M : Mdl} {m : V} {t : Tm} {x : V} {d : Addr} {ρ : Asg} (h1 : IsMod H M m) (h2 : IsTm H t x) (h3 : t.depth ≤ n) (h4 : t.size ≤ 100000) (h5 : t.ofs M.fs) (h6 : H d = some (.dK (kvA ρ))) (h7 : ∀ n : Int, (.inl n : Key) ∈ t.syms → n ∈ ρ.map (·.1))
    (q : ∀ H', Same H H' → Q (.int (t.val M.I (look ρ))) H') : spVal n [m, x, .ref d] H Q E := by
  unfold spVal
  exact ⟨M, m, t, x, d, ρ, rfl, h1, h2, h3, h4, h5, h6, h7, q⟩
theorem c_value (T : TopF K mg) : ∀ n : Nat, Cal P w K mg base CX0 (n + 1) "value" ["model", "term", "assignment"] (spVal n)
  | 0 => n_value T (fun vs H Q E h => by
    unfold spVal at h
    obtain ⟨M, m, t, x, d, ρ, _, _, _, hd, _⟩ := h
    have := t.depth_pos
    omega)
  | n + 1 => by
    have ih := c_value T n
    refine k_value T (fun vs H Q E h => by unfold spVal at h; obtain ⟨_, _, _, _, _, _, rfl, _⟩ := h; rfl) (fun cdv A outer s H vs Q E hr h => ?_)
    unfold spVal at h
    obtain ⟨M, m, t, x, d, ρ, rfl, hm, ht, hd, hz, hf, hk, hv, q⟩ := h
    refine ⟨_, pss_cons (ps_if (pt_val (pe_cal (c_isV T) (hr.mono (by omega)) rfl pass0 (pa_cons (pv 1) pa_nil))) (pss_one (ps_ret (pe_dget (hu_of hr) (pv 2) (pv 1) (fun _ _ => rfl)))) pss_nil)
      (pss_cons (ps_set (i := 3) sc_value.nd rfl (Or.inl rfl) (pe_lst pa_nil))
      (pss_cons (ps_for PassesOwn.never rfl (pi_tup (pe_slice sl_tupA (pv 1) (po_some pe_int) po_none)) (pg_name (i := 4) sc_value.nd rfl (Or.inl rfl))
        (pss_one (ps_expr (pe_bm PySem.F.plainAttrs_list PySem.F.slot_list_append PySem.F.type_list_append mt_append (pv 3) (pa_cons (pe_cal ih hr rfl pass0 (pa_cons (pv 0) (pa_cons (pv 4) (pa_cons (pv 2) pa_nil)))) pa_nil)))))
      (pss_one (ps_ret (pe_dget2 (hu_of hr) (pe_dget (hu_of hr) (pe_ix ix_tup (pv 0) pe_int (fun _ _ => rfl)) (pe_ix ix_tup (pv 1) pe_int (fun _ _ => rfl)) (fun _ _ => rfl)) (pe_callTy call_tuple_of rfl T.z_tuple (by decide +kernel) (pa_cons (pv 3) pa_nil)) pe_int ⟨rfl, rfl, rfl, rfl⟩))))), ?_⟩
    refine rd_when1 (rd_B (rd_call1 (rd_var rfl (isV_tm ht (fun k e1 e2 => ⟨_, rfl, iteT ?_⟩) (fun f as p us e1 e2 hp his => ⟨_, rfl, iteF ?_⟩)))))
    · subst e1
      subst e2
      refine rd_ret ?_
      have hkm := hv k (by simp [Tm.syms])
      refine ⟨_, rfl, _, rfl, d, .int (look ρ k), rfl, ?_, q H (Same.refl H)⟩
      have g := DGet.k (k := Sum.inl k) hk
      rw [valV_kvA, lookup_has hkm] at g
      exact g
    · subst e1
      subst e2
      refine rd_let (rd_lst0 fun l hl => ?_)
      have s0 : Same H (upd H l (.lst [])) := Same.new hl _
      refine rd_seq (rd_for (rd_args rfl (s0 _ _ hp) fun a ha => ?_))
      have hal : a ≠ l := fun z => by rw [z, upd_same] at ha; cases ha
      have aH : H a = none := s0.free ha
      have hlen := his.length
      have hal2 := args_le as
      have hz' : 1 + Tm.sizes as ≤ 100000 := hz
      refine for_tup (K := K) (a := a) (xs := us) (fun i σ H' => ∃ z, σ = [some m, some (.ref p), some (.ref d), some (.ref l), z] ∧ Same H H' ∧ H' a = some (.tup us) ∧ H' l = some (.lst ((Tm.vals M.I (look ρ) (as.take i)).map V.int)))
        ⟨_, rfl, Same.mut s0 aH, upd_same, by rw [upd_ne (Ne.symm hal), upd_same]; rfl⟩ (fun i σ H' _ hh => ?_) ?_ ?_
      · obtain ⟨z, rfl, s1, s2, s3⟩ := hh
        exact sqt s2
      · rintro i y σ H' hi ⟨z, rfl, s1, s2, s3⟩
        obtain ⟨u, hu, hy⟩ := his.get hi
        have hde := depth_arg hu
        have hsz := size_arg hu
        have hd' : 1 + Tm.depths as ≤ n + 1 := hd
        have hi' : i < as.length := (List.getElem?_eq_some_iff.mp hu).1
        refine rd_name (rd_app rfl s3 (rd_call3 (rd_var rfl (rd_var rfl (rd_var rfl (spVal.i (hm.mono s1) (hy.mono (Tups.same s1)) (by omega) (by omega) (fun g hg => hf g (syms_args hu hg)) (s1 _ _ hk) (fun k hk => hv k (syms_args hu hk)) fun H'' s5 => ?_))))))
        refine rd_app' (s5 _ _ s3) (by rw [List.length_map, vals_map, List.length_map, List.length_take]; omega) ⟨_, rfl, Same.mut (s1.trans s5) hl, by rw [upd_ne hal]; exact s5 _ _ s2, ?_⟩
        rw [upd_same, take_succ' hu, vals_map, vals_map, List.map_append, List.map_append]
        rfl
      · rintro σ H' ⟨z, rfl, s1, s2, s3⟩
        rw [hlen, List.take_length] at s3
        obtain ⟨pm, dm, kvs, rfl, m1, m2, m3⟩ := hm.mono s1
        obtain ⟨xt, e1, td, tvs, rfl, m4, m5⟩ := m3 f (hf f (by simp [Tm.syms]))
        refine rd_nx (rd_ret ?_)
        have g1 := DGet.k (k := (.inr f : Key)) m2
        rw [e1] at g1
        refine rd_dget2 (rd_dget (rd_ixTc rfl m1 at1 (rd_ixTc rfl (s1 _ _ hp) at0 ⟨dm, _, rfl, g1, td, rfl, .inr ⟨tvs, .inl m4⟩, ?_⟩)))
        refine rd_B1 (rd_var rfl ⟨l, _, rfl, .inl ⟨sql s3, fun r hr => ?_⟩⟩)
        have s5 : Same H' (upd H' r (.tup ((Tm.vals M.I (look ρ) as).map V.int))) := Same.new hr _
        have g2 := DGet.t (k := (Tm.vals M.I (look ρ) as).map (Sum.inl : Int → Key)) (s5 _ _ m4) (b := r) (by rw [upd_same, List.map_map]; rfl)
        refine ⟨_, g2, ?_⟩
        rw [m5]
        exact q _ (s1.trans s5)
end
end K65
namespace K65
open PySem PySem.Spec PyProof.Rows L2
/-! ### for n in ..: if n not in acc: acc.append(n) -/
def addAll (acc bs : List Int) : List Int := (bs.map (Sum.inl : Int → Key)).foldl addK acc
theorem addAll_mem {acc bs : List Int} {n : Int} : n ∈ addAll acc bs ↔ n ∈ acc ∨ n ∈ bs := by
  unfold addAll
  rw [foldK_mem]
  simp
theorem addAll_nd {acc bs : List Int} (h : acc.Nodup) : (addAll acc bs).Nodup := foldK_nd h
theorem addAll_len {acc bs : List Int} : (addAll acc bs).length ≤ acc.length + bs.length := by
  have := foldK_len (ks := bs.map (Sum.inl : Int → Key)) (acc := acc)
  rw [List.length_map] at this
  exact this
theorem addAll_snoc {acc bs : List Int} {n : Int} : addAll acc (bs ++ [n]) = if n ∈ addAll acc bs then addAll acc bs else addAll acc bs ++ [n] := by
  unfold addAll
  rw [List.map_append, List.foldl_append]
  rfl
theorem for_addall {K : PySem.W.Frag} {D : Ends} {σ : L2.St} {H : Hp} {i j : Nat} {l a : Addr} {acc bs : List Int} (hij : j ≠ i) (hi : σ[i]? = some (some (.ref l))) (hj : ∃ z, σ[j]? = some z) (hal : a ≠ l) (ha : H a = some (.lst (bs.map V.int))) (hl : H l = some (.lst (acc.map V.int))) (hlen : acc.length + bs.length ≤ 100000)
    (q : ∀ z H', (∀ b o, b ≠ l → H b = some o → H' b = some o) → H' l = some (.lst ((addAll acc bs).map V.int)) → D.nx (σ.set j z) H') :
    ∃ W : Nat → Nat → L2.St → Hp → Prop, (∃ m, W 0 m σ H) ∧ ∀ i' m σ H, W i' m σ H →
      ((Itl K a).stop i' H ∧ D.nx σ H) ∨ ((Itl K a).go i' H ∧ ∃ N : L2.St → Hp → Prop, (∀ σ' H', N σ' H' → ∃ m', m' < m ∧ W (i' + 1) m' σ' H') ∧ ∀ x H', (Itl K a).yld i' H x H' → gName j x σ H' fun σ2 H2 =>
        (tIfS (tTest (tOp (rNiI K) (tVar j) (tVar i))) (tDrop (tBM K "list" rAppend (tVar i) (tCons (tVar j) tNil))) tNext) { D with nx := N, ct := N, bk := D.nx } σ2 H2) := by
  obtain ⟨z0, hz0⟩ := hj
  obtain ⟨hjl, ez0⟩ := List.getElem?_eq_some_iff.mp hz0
  have si : ∀ z, (σ.set j z)[i]? = some (some (.ref l)) := fun z => (List.getElem?_set_ne hij).trans hi
  have sj : ∀ z, (σ.set j z)[j]? = some z := fun z => List.getElem?_set_self hjl
  refine for_list (K := K) (a := a) (xs := bs.map V.int) (fun k σ' H' => ∃ z, σ' = σ.set j z ∧ (∀ b o, b ≠ l → H b = some o → H' b = some o) ∧ H' l = some (.lst ((addAll acc (bs.take k)).map V.int)))
    ⟨z0, by rw [← ez0, List.set_getElem_self], fun _ _ _ h => h, hl⟩ (fun k σ' H' _ hh => ?_) ?_ ?_
  · obtain ⟨z, rfl, s1, s2⟩ := hh
    exact sql (s1 _ _ hal ha)
  · rintro k y σ' H' hk ⟨z, rfl, s1, s2⟩
    obtain ⟨n, hn, rfl⟩ : ∃ n, bs[k]? = some n ∧ y = .int n := by
      rw [List.getElem?_map] at hk
      cases e : bs[k]? with
      | none => rw [e] at hk; cases hk
      | some n => rw [e] at hk; exact ⟨n, rfl, (Option.some.inj hk).symm⟩
    have hk' := (List.getElem?_eq_some_iff.mp hn).1
    have hl2 : (addAll acc (bs.take k)).length ≤ 100000 := by
      have := addAll_len (acc := acc) (bs := bs.take k)
      rw [List.length_take] at this
      omega
    refine rd_name ?_
    rw [List.set_set]
    refine rd_if (rd_test (rd_op (rd_var (sj _) (rd_var (si _) ⟨l, _, n, rfl, rfl, sql s2, _, rfl, ?_⟩))))
    have e := take_succ' hn
    by_cases hm : n ∈ addAll acc (bs.take k)
    · rw [decide_eq_true hm]
      refine iteF (rd_next ⟨_, rfl, s1, ?_⟩)
      rw [e, addAll_snoc, if_pos hm]
      exact s2
    · rw [decide_eq_false hm]
      refine iteT (rd_app (si _) s2 (rd_var (sj _) (rd_app' s2 (by rw [List.length_map]; omega) ⟨_, rfl, fun b o hb ho => ?_, ?_⟩)))
      · rw [upd_ne hb]; exact s1 b o hb ho
      · rw [upd_same, e, addAll_snoc, if_neg hm, List.map_append]; rfl
  · rintro σ' H' ⟨z, rfl, s1, s2⟩
    rw [List.length_map, List.take_length] at s2
    exact q z H' s1 s2
/-! ### equation_variables, first_difference, counterexample, holds -/
def eqVars (l r : Tm) : List Int := addAll l.vars r.vars
theorem mem_eqVars {l r : Tm} {n : Int} : n ∈ eqVars l r ↔ (.inl n : Key) ∈ l.syms ∨ (.inl n : Key) ∈ r.syms := by
  unfold eqVars
  rw [addAll_mem, Tm.mem_vars, Tm.mem_vars]
theorem eqVars_nd {l r : Tm} : (eqVars l r).Nodup := addAll_nd l.vars_nd
/-- both sides have one value under every assignment that goes on from ρ -/
def allB (M : Mdl) (l r : Tm) : List Int → Asg → Bool
  | [], ρ => decide (l.val M.I (look ρ) = r.val M.I (look ρ))
  | n :: ns, ρ => (List.range M.sz).all fun e => allB M l r ns (ρ ++ [(n, (e : Int))])
def holdsB (M : Mdl) (l r : Tm) : Bool := allB M l r (eqVars l r) []
theorem lookup_out {n : Int} : ∀ {ρ : Asg}, n ∉ ρ.map (·.1) → ρ.lookup n = none
  | [], _ => rfl
  | (m, x) :: r, h => by
    have e : n ≠ m := fun z => h (by rw [z]; exact List.mem_cons_self)
    have e1 : (n == m) = false := by simpa using e
    simp only [List.lookup, e1]
    exact lookup_out fun z => h (List.mem_cons_of_mem _ z)
theorem put_kvA {ρ : Asg} {n x : Int} (h : n ∉ ρ.map (·.1)) : putK (kvA ρ) (.inl n : Key) (.int x) = kvA (ρ ++ [(n, x)]) := by
  rw [putK_new]
  · unfold kvA; rw [List.map_append]; rfl
  · rw [valV_kvA, lookup_out h]; rfl
section
variable {P : Program} {w : World} {K : PySem.W.Frag} {mg : Str → Option Value} {base : Heap}
@[irreducible] def spEqV (n : Nat) : Sp := fun vs H Q _ => ∃ l r x y, vs = [x, y] ∧ IsTm H l x ∧ IsTm H r y ∧ l.depth ≤ n ∧ l.size ≤ 10000 ∧ r.depth ≤ n ∧ r.size ≤ 10000 ∧ ∀ p H', H p = none → Same H H' → H' p = some (.lst ((eqVars l r).map V.int)) → Q (.ref p) H'
theorem spEqV.i {n : Nat} {H : Hp} {l r : Tm} {x y : V} {Q : VK} {E : XK} (hl : IsTm H l x) (hr : IsTm H r y) (h1 : l.depth ≤ n) (h2 : l.size ≤ 10000) (h3 : r.depth ≤ n) (h4 : r.size ≤ 10000) (q : ∀ p H', H p = none → Same H H' → H' p = some (.lst ((eqVars l r).map V.int)) → Q (.ref p) H') : spEqV n [x, y] H Q E := by
  unfold spEqV
  exact ⟨l, r, x, y, rfl, hl, hr, h1, h2, h3, h4, q⟩
theorem c_eqV (T : TopF K mg) (n : Nat) : Cal P w K mg base CX0 (n + 3) "equation_variables" ["left", "right"] (spEqV n) := by
  refine k_equation_variables T (fun vs H Q E h => by unfold spEqV at h; obtain ⟨_, _, _, _, rfl, _⟩ := h; rfl) (fun cdv A outer s H vs Q E hr h => ?_)
  unfold spEqV at h
  obtain ⟨l, r, x, y, rfl, hl, hrt, h1, h2, h3, h4, q⟩ := h
  refine ⟨_, pss_cons (ps_set (i := 2) sc_equation_variables.nd rfl (Or.inl rfl) (pe_cal (c_variables T n) hr rfl pass0 (pa_cons (pv 0) pa_nil)))
    (pss_cons (ps_for PassesOwn.never rfl (pi_list (pe_cal (c_variables T n) hr rfl pass0 (pa_cons (pv 1) pa_nil))) (pg_name (i := 3) sc_equation_variables.nd rfl (Or.inl rfl))
      (pss_one (ps_if (pt_cmpR op_niI (pv 3) (pv 2) (by rfl))
        (pss_one (ps_expr (pe_bm PySem.F.plainAttrs_list PySem.F.slot_list_append PySem.F.type_list_append mt_append (pv 2) (pa_cons (pv 3) pa_nil)))) pss_nil)))
    (pss_one (ps_ret (pv 2)))), ?_⟩
  refine rd_let (rd_call1 (rd_var rfl (spVars.i hl h1 (by omega) fun p H1 np s1 hp => ?_)))
  refine rd_seq (rd_for (rd_iList (rd_call1 (rd_var rfl (spVars.i (hrt.mono (Tups.same s1)) h3 (by omega) fun a H2 na s2 ha => ⟨a, rfl, ⟨_, sql ha⟩, ?_⟩)))))
  have hal : a ≠ p := fun z => by rw [z, hp] at na; cases na
  have v1 := l.vars_len
  have v2 := r.vars_len
  refine for_addall (i := 2) (j := 3) (by decide) rfl ⟨_, rfl⟩ hal ha (s2 _ _ hp) (by omega) fun z H3 s3 h3' => ?_
  refine rd_nx (rd_ret (rd_var rfl (q p H3 np (fun b o hb => ?_) h3')))
  exact s3 _ _ (ne_of_none hb np) (s2 _ _ (s1 _ _ hb))
@[irreducible] def spFd (n k : Nat) : Sp := fun vs H Q _ => ∃ M m e nl d l r x y rest ρ, vs = [m, .ref e, .ref nl, .ref d] ∧ IsMod H M m ∧ M.sz ≤ 100 ∧ H e = some (.tup [x, y]) ∧ IsTm H l x ∧ IsTm H r y ∧ l.depth ≤ n ∧ l.size ≤ 10000 ∧ r.depth ≤ n ∧ r.size ≤ 10000 ∧ l.ofs M.fs ∧ r.ofs M.fs ∧
  H nl = some (.lst ((ρ.map (·.1) ++ rest).map V.int)) ∧ (ρ.map (·.1) ++ rest).Nodup ∧ rest.length < k ∧ ρ.length + rest.length ≤ 1000 ∧ H d = some (.dK (kvA ρ)) ∧ (∀ n : Int, (.inl n : Key) ∈ l.syms ∨ (.inl n : Key) ∈ r.syms → n ∈ ρ.map (·.1) ++ rest) ∧
  ∀ v H', Same H H' → decide (v = .non) = allB M l r rest ρ → Q v H'
theorem spFd.i {n k : Nat} {H : Hp} {Q : VK} {E : XK} {M : Mdl} {m : V} {e nl d : Addr} {l r : Tm} {x y : V} {rest : List Int} {ρ : Asg} (h1 : IsMod H M m) (h1' : M.sz ≤ 100) (h2 : H e = some (.tup [x, y])) (h3 : IsTm H l x) (h4 : IsTm H r y) (h5 : l.depth ≤ n) (h6 : l.size ≤ 10000) (h7 : r.depth ≤ n) (h8 : r.size ≤ 10000) (h9 : l.ofs M.fs) (h10 : r.ofs M.fs)
    (h11 : H nl = some (.lst ((ρ.map (·.1) ++ rest).map V.int))) (h12 : (ρ.map (·.1) ++ rest).Nodup) (h13 : rest.length < k) (h14 : ρ.length + rest.length ≤ 1000) (h15 : H d = some (.dK (kvA ρ))) (h16 : ∀ n : Int, (.inl n : Key) ∈ l.syms ∨ (.inl n : Key) ∈ r.syms → n ∈ ρ.map (·.1) ++ rest)
    (q : ∀ v H', Same H H' → decide (v = .non) = allB M l r rest ρ → Q v H') : spFd n k [m, .ref e, .ref nl, .ref d] H Q E := by
  unfold spFd
  exact ⟨M, m, e, nl, d, l, r, x, y, rest, ρ, rfl, h1, h1', h2, h3, h4, h5, h6, h7, h8, h9, h10, h11, h12, h13, h14, h15, h16, q⟩
theorem c_fd (T : TopF K mg) (n : Nat) : ∀ k : Nat, Cal P w K mg base CX0 (n + 1 + k) "first_difference" ["model", "equation", "names", "assignment"] (spFd n k)
  | 0 => n_first_difference T (fun vs H Q E h => by
    unfold spFd at h
    obtain ⟨_, _, _, _, _, _, _, _, _, _, _, _, _, _, _, _, _, _, _, _, _, _, _, _, _, h, _⟩ := h
    omega)
  | k + 1 => by
    have ih := c_fd T n k
    refine k_first_difference T (fun vs H Q E h => by unfold spFd at h; obtain ⟨_, _, _, _, _, _, _, _, _, _, _, rfl, _⟩ := h; rfl) (fun cdv A outer s H vs Q E hr h => ?_)
    unfold spFd at h
    obtain ⟨M, m, e, nl, d, l, r, x, y, rest, ρ, rfl, hm, hsz, he, hl, hrt, d1, z1, d2, z2, f1, f2, hn, hnd, hk, hlen, hd, hv, q⟩ := h
    refine ⟨_, pss_cons (ps_if (pt_cmpR op_eq (pe_callB call_lenD rfl T.z_len (by decide +kernel) (pa_cons (pv 3) pa_nil)) (pe_callB call_len rfl T.z_len (by decide +kernel) (pa_cons (pv 2) pa_nil)) (nomark _))
        (pss_cons (ps_if (pt_cmpR op_eq (pe_cal (c_value T n) (hr.mono (Nat.le_add_right (n + 1) k)) rfl pass0 (pa_cons (pv 0) (pa_cons (pe_ix ix_tup (pv 1) pe_int (fun _ _ => rfl)) (pa_cons (pv 3) pa_nil)))) (pe_cal (c_value T n) (hr.mono (Nat.le_add_right (n + 1) k)) rfl pass0 (pa_cons (pv 0) (pa_cons (pe_ix ix_tup (pv 1) pe_int (fun _ _ => rfl)) (pa_cons (pv 3) pa_nil)))) (nomark _))
          (pss_one (ps_ret pe_non)) pss_nil) (pss_one (ps_ret (pv 3)))) pss_nil)
      (pss_cons (ps_for PassesOwn.never rfl (pi_range1 rfl T.z_range (pa_cons (pe_ix ix_tup (pv 0) pe_int (fun _ _ => rfl)) pa_nil)) (pg_name (i := 4) sc_first_difference.nd rfl (Or.inl rfl))
        (pss_cons (ps_set (i := 5) sc_first_difference.nd rfl (Or.inl rfl) (pe_callTy call_dictD rfl T.z_dict (by decide +kernel) (pa_cons (pv 3) pa_nil)))
        (pss_cons (ps_dput (hu_of hr) (pv 5) (pe_ix ix_list (pv 2) (pe_callB call_lenD rfl T.z_len (by decide +kernel) (pa_cons (pv 3) pa_nil)) (fun _ _ => rfl)) (pv 4) rfl)
        (pss_cons (ps_set (i := 6) sc_first_difference.nd rfl (Or.inl rfl) (pe_cal ih hr rfl pass0 (pa_cons (pv 0) (pa_cons (pv 1) (pa_cons (pv 2) (pa_cons (pv 5) pa_nil))))))
        (pss_one (ps_if (pt_cmpR op_notN (pv 6) pe_non (nomark _)) (pss_one (ps_ret (pv 6))) pss_nil))))))
      (pss_one (ps_ret pe_non))), ?_⟩
    refine rd_when1 (rd_test (rd_op (rd_B1 (rd_var rfl ⟨d, _, rfl, hd, rd_B1 (rd_var rfl ⟨_, _, rfl, .inl ⟨_, sql hn, rfl⟩, ⟨rfl, _, rfl, ?_⟩⟩)⟩))))
    have hkl : (kvA ρ).length = ρ.length := List.length_map ..
    have hnl : ((ρ.map (·.1) ++ rest).map V.int).length = ρ.length + rest.length := by simp
    rw [hkl, hnl]
    have h1000 : ρ.length < sizeLine := by rw [sizeLine_eq]; omega
    cases rest with
    | nil =>
      rw [List.append_nil] at hv
      rw [decide_eq_true (show V.int ((ρ.length : Nat) : Int) = .int ((ρ.length + ([] : List Int).length : Nat) : Int) from rfl)]
      refine iteT (rd_when1 (rd_test (rd_op (rd_call3 (rd_var rfl (rd_ixTc rfl he at0 (rd_var rfl (spVal.i hm hl d1 (by omega) f1 hd (fun j hj => hv j (.inl hj)) fun H1 s1 => ?_))))))))
      refine rd_call3 (rd_var rfl (rd_ixTc rfl (s1 _ _ he) at1 (rd_var rfl (spVal.i (hm.mono s1) (hrt.mono (Tups.same s1)) d2 (by omega) f2 (s1 _ _ hd) (fun j hj => hv j (.inr hj)) fun H2 s2 => ⟨rfl, _, rfl, ?_⟩))))
      have s02 := s1.trans s2
      by_cases e : l.val M.I (look ρ) = r.val M.I (look ρ)
      · rw [decide_eq_true (by rw [e])]
        exact iteT (rd_ret (rd_c (q _ _ s02 (by rw [decide_eq_true rfl]; exact (decide_eq_true e).symm))))
      · rw [decide_eq_false (fun z => e (V.int.inj z))]
        exact iteF (rd_ret (rd_var rfl (q _ _ s02 (by rw [decide_eq_false (fun z => by cases z)]; exact (decide_eq_false e).symm))))
    | cons nn rest =>
      rw [decide_eq_false (fun z => by have z := V.int.inj z; rw [List.length_cons] at z; omega)]
      refine iteF ?_
      obtain ⟨pm, dm, kvs, rfl, m1, m2, m3⟩ := id hm
      refine rd_seq (rd_for (rd_cons1 (rd_ixTc rfl m1 at0 ⟨(M.sz : Int), rfl, by omega, by omega, ?_⟩)))
      have hnn : nn ∉ ρ.map (·.1) := fun z => by
        have := (List.nodup_append.mp hnd).2.2 nn z nn List.mem_cons_self
        exact this rfl
      have hat : ((ρ.map (·.1) ++ nn :: rest).map V.int)[ρ.length]? = some (.int nn) := by
        rw [List.getElem?_map, List.getElem?_append_right (by simp)]
        simp
      rw [show ((M.sz : Int)).toNat = M.sz from Int.toNat_natCast _]
      refine for_range (lo := 0) (n := M.sz) (fun i σ H' => ∃ z4 z5 z6, σ = [some (.ref pm), some (.ref e), some (.ref nl), some (.ref d), z4, z5, z6] ∧ Same H H' ∧ ((List.range i).all fun e => allB M l r rest (ρ ++ [(nn, (e : Int))])) = true)
        ⟨_, _, _, rfl, Same.refl H, rfl⟩ ?_ ?_
      · rintro i σ H' hi ⟨z4, z5, z6, rfl, s1, ha⟩
        rw [Int.zero_add]
        refine rd_name (rd_let (rd_B1 (rd_var rfl ⟨d, _, rfl, .inl (s1 _ _ hd), fun p np => ?_⟩)))
        have pd : H p = none := s1.free np
        have s2 : Same H' (upd H' p (.dK (kvA ρ))) := Same.new np _
        have s02 := s1.trans s2
        refine rd_seq (rd_dput (rd_var rfl (rd_var rfl (rd_ixL (rd_var rfl (rd_B1 (rd_var rfl ⟨d, _, rfl, s02 _ _ hd, nl, _, _, _, rfl, rfl, sql (s02 _ _ hn), by rw [hkl]; exact atI_nat hat, ?_⟩)))))))
        refine ⟨p, _, rfl, DPut.k (k := (.inl nn : Key)) upd_same (by rw [hkl]; exact h1000), ?_⟩
        rw [put_kvA hnn]
        have eρ : (ρ ++ [(nn, (i : Int))]).map (·.1) ++ rest = ρ.map (·.1) ++ nn :: rest := by simp
        have s3 := Same.mut (o := .dK (kvA (ρ ++ [(nn, (i : Int))]))) s02 pd
        refine rd_nx (rd_let (rd_call4 (rd_var rfl (rd_var rfl (rd_var rfl (rd_var rfl (spFd.i (ρ := ρ ++ [(nn, (i : Int))]) (rest := rest) (hm.mono s3) hsz (s3 _ _ he) (hl.mono (Tups.same s3)) (hrt.mono (Tups.same s3)) d1 z1 d2 z2 f1 f2 ?_ ?_ (by simp at hk; omega) (by simp at hlen ⊢; omega) upd_same ?_ fun v H4 s4 hv4 => ?_)))))))
        · rw [eρ]; exact s3 _ _ hn
        · rw [eρ]; exact hnd
        · rw [eρ]; exact hv
        · refine rd_if (rd_test (rd_notN rfl ⟨_, rfl, ?_⟩))
          rw [hv4]
          cases hb : allB M l r rest (ρ ++ [(nn, (i : Int))]) with
          | true =>
            refine iteF (rd_next ⟨_, _, _, rfl, s3.trans s4, ?_⟩)
            rw [List.range_succ, List.all_append, ha]
            simp [hb]
          | false =>
            refine iteT (rd_ret (rd_var rfl (q _ _ (s3.trans s4) ?_)))
            rw [hv4, hb]
            refine (Bool.eq_false_iff.mpr fun z => ?_).symm
            have := List.all_eq_true.mp z i (List.mem_range.mpr hi)
            rw [hb] at this
            cases this
      · rintro σ H' ⟨z4, z5, z6, rfl, s1, ha⟩
        refine rd_nx (rd_ret (rd_c (q _ _ s1 ?_)))
        rw [decide_eq_true rfl]
        exact ha.symm
end
end K65
namespace K65
open PySem PySem.Spec PyProof.Rows L2
theorem eqVars_len {l r : Tm} : (eqVars l r).length ≤ l.vars.length + r.vars.length := addAll_len
section
variable {P : Program} {w : World} {K : PySem.W.Frag} {mg : Str → Option Value} {base : Heap}
@[irreducible] def spHolds : Sp := fun vs H Q _ => ∃ M m l r x y, vs = [m, x, y] ∧ IsMod H M m ∧ M.sz ≤ 100 ∧ IsTm H l x ∧ IsTm H r y ∧ Lim l ∧ Lim r ∧ l.ofs M.fs ∧ r.ofs M.fs ∧ ∀ H', Same H H' → Q (.bl (holdsB M l r)) H'
theorem spHolds.i {H : Hp} {Q : VK} {E : XK} {M : Mdl} {m : V} {l r : Tm} {x y : V} (h1 : IsMod H M m) (h2 : M.sz ≤ 100) (h3 : IsTm H l x) (h4 : IsTm H r y) (h5 : Lim l) (h6 : Lim r) (h7 : l.ofs M.fs) (h8 : r.ofs M.fs) (q : ∀ H', Same H H' → Q (.bl (holdsB M l r)) H') : spHolds [m, x, y] H Q E := by
  unfold spHolds
  exact ⟨M, m, l, r, x, y, rfl, h1, h2, h3, h4, h5, h6, h7, h8, q⟩
@[irreducible] def spCx : Sp := fun vs H Q _ => ∃ M m l r x y, vs = [m, x, y] ∧ IsMod H M m ∧ M.sz ≤ 100 ∧ IsTm H l x ∧ IsTm H r y ∧ Lim l ∧ Lim r ∧ l.ofs M.fs ∧ r.ofs M.fs ∧ ∀ v H', Same H H' → decide (v = .non) = holdsB M l r → Q v H'
theorem spCx.i {H : Hp} {Q : VK} {E : XK} {M : Mdl} {m : V} {l r : Tm} {x y : V} (h1 : IsMod H M m) (h2 : M.sz ≤ 100) (h3 : IsTm H l x) (h4 : IsTm H r y) (h5 : Lim l) (h6 : Lim r) (h7 : l.ofs M.fs) (h8 : r.ofs M.fs) (q : ∀ v H', Same H H' → decide (v = .non) = holdsB M l r → Q v H') : spCx [m, x, y] H Q E := by
  unfold spCx
  exact ⟨M, m, l, r, x, y, rfl, h1, h2, h3, h4, h5, h6, h7, h8, q⟩
theorem c_cx (T : TopF K mg) : Cal P w K mg base CX0 74 "counterexample" ["model", "left", "right"] spCx := by
  refine k_counterexample T (fun vs H Q E h => by unfold spCx at h; obtain ⟨_, _, _, _, _, _, rfl, _⟩ := h; rfl) (fun cdv A outer s H vs Q E hr h => ?_)
  unfold spCx at h
  obtain ⟨M, m, l, r, x, y, rfl, h1, h2, h3, h4, h5, h6, h7, h8, q⟩ := h
  refine ⟨_, pss_one (ps_ret (pe_cal (c_fd T 12 60) hr rfl pass0 (pa_cons (pv 0) (pa_cons (pe_tup (pa_cons (pv 1) (pa_cons (pv 2) pa_nil))) (pa_cons (pe_cal (c_eqV T 12) (hr.mono (by omega)) rfl pass0 (pa_cons (pv 1) (pa_cons (pv 2) pa_nil))) (pa_cons pe_dnewK pa_nil)))))), ?_⟩
  refine rd_ret (rd_call4 (rd_var rfl (rd_tup (rd_cons2 (rd_var rfl (rd_var rfl ⟨ln_ok, fun e ne => ?_⟩))))))
  have s1 : Same H (upd H e (.tup [x, y])) := Same.new ne _
  refine rd_call2 (rd_var rfl (rd_var rfl (spEqV.i (h3.mono (Tups.same s1)) (h4.mono (Tups.same s1)) h5.d (Nat.le_trans h5.z (by decide)) h6.d (Nat.le_trans h6.z (by decide)) fun nl H2 nn s2 hnl => rd_dnewK fun d nd => ?_)))
  have s3 : Same H2 (upd H2 d (.dK [])) := Same.new nd _
  have s13 := (s1.trans s2).trans s3
  have ev := eqVars_len (l := l) (r := r)
  have v1 := h5.vl
  have v2 := h6.vl
  refine spFd.i (ρ := []) (rest := eqVars l r) (h1.mono s13) h2 (s3 _ _ (s2 _ _ upd_same)) (h3.mono (Tups.same s13)) (h4.mono (Tups.same s13)) h5.d (Nat.le_trans h5.z (by decide)) h6.d (Nat.le_trans h6.z (by decide)) h7 h8 (s3 _ _ hnl) eqVars_nd (by omega) (by simp; omega) upd_same (fun j hj => ?_) fun v H4 s4 hv => ?_
  · exact mem_eqVars.mpr hj
  · exact q v H4 (s13.trans s4) hv
theorem c_holds (T : TopF K mg) : Cal P w K mg base CX0 75 "holds" ["model", "left", "right"] spHolds := by
  refine k_holds T (fun vs H Q E h => by unfold spHolds at h; obtain ⟨_, _, _, _, _, _, rfl, _⟩ := h; rfl) (fun cdv A outer s H vs Q E hr h => ?_)
  unfold spHolds at h
  obtain ⟨M, m, l, r, x, y, rfl, h1, h2, h3, h4, h5, h6, h7, h8, q⟩ := h
  refine ⟨_, pss_one (ps_ret (pe_cmpR op_isN (pe_cal (c_cx T) hr rfl pass0 (pa_cons (pv 0) (pa_cons (pv 1) (pa_cons (pv 2) pa_nil)))) pe_non (nomark _))), ?_⟩
  refine rd_ret (rd_op (rd_call3 (rd_var rfl (rd_var rfl (rd_var rfl (spCx.i h1 h2 h3 h4 h5 h6 h7 h8 fun v H1 s1 hv => ⟨rfl, ?_⟩))))))
  rw [hv]
  exact q H1 s1
end
end K65
namespace K65
open PySem PySem.Spec PyProof.Rows L2
/-! ### frames -/
/-- the heap without M -/
def no (M : List Addr) (H : Hp) : Hp := fun b => if b ∈ M then none else H b
theorem no_out {M : List Addr} {H : Hp} {b : Addr} (h : b ∉ M) : no M H b = H b := if_neg h
theorem no_in {M : List Addr} {H : Hp} {b : Addr} (h : b ∈ M) : no M H b = none := if_pos h
theorem no_some {M : List Addr} {H : Hp} {b : Addr} {o : HO} (h : no M H b = some o) : b ∉ M ∧ H b = some o := by
  unfold no at h
  split at h
  · cases h
  · rename_i q; exact ⟨q, h⟩
theorem no_none {M : List Addr} {H : Hp} {b : Addr} (h : H b = none) : no M H b = none := by
  unfold no
  split
  · rfl
  · exact h
theorem no_same {M : List Addr} {H : Hp} : Same (no M H) H := fun b o h => (no_some h).2
/-- what is not in M stays -/
def Fr (M : List Addr) (H H' : Hp) : Prop := Same (no M H) (no M H')
section
variable {M N : List Addr} {H H' H1 H2 : Hp} {p b : Addr} {o : HO}
theorem Fr.refl : Fr M H H := Same.refl _
theorem Fr.trans (a : Fr M H H1) (b : Fr M H1 H2) : Fr M H H2 := Same.trans a b
theorem Fr.of (s : Same H H') : Fr M H H' := fun b o h => by
  obtain ⟨h1, h2⟩ := no_some h
  rw [no_out h1]
  exact s b o h2
theorem Fr.keep (s : Fr M H H') (hb : b ∉ M) (h : H b = some o) : H' b = some o := (no_some (s b o ((no_out hb).trans h))).2
theorem Fr.more (s : Fr M H H') (h : ∀ b ∈ M, b ∈ N) : Fr N H H' := fun b o hb => by
  obtain ⟨h1, h2⟩ := no_some hb
  rw [no_out h1]
  exact s.keep (fun z => h1 (h b z)) h2
theorem Fr.free (s : Fr M H H') (h : H' p = none) : no M H p = none := Same.free s (no_none h)
theorem Fr.mut (s : Fr M H H') (h : no M H p = none) : Fr M H (upd H' p o) := fun b u hb => by
  have hne : b ≠ p := fun z => by rw [z, h] at hb; cases hb
  have z := s b u hb
  obtain ⟨h1, h2⟩ := no_some z
  rw [no_out h1, upd_ne hne]
  exact h2
theorem Fr.mem (h : p ∈ M) : Fr M H (upd H p o) := Fr.mut Fr.refl (no_in h)
/-- a new thing -/
theorem Fr.new (h : H p = none) : Fr M H (upd H p o) := Fr.of (Same.new h o)
end
/-! ### the state of the drawing -/
def St (a sc : Addr) (H : Hp) : Prop := ∃ (n i seed : Int) (scr : List Int), H a = some (.lst [.int n, .ref sc, .int i, .int seed]) ∧ 0 ≤ i ∧ H sc = some (.lst (scr.map V.int)) ∧ sc ≠ a
section
variable {a sc p : Addr} {H H' : Hp} {o : HO}
theorem St.mono (h : St a sc H) (s : Same H H') : St a sc H' := by
  obtain ⟨n, i, sd, scr, h1, h2, h3, h4⟩ := h
  exact ⟨n, i, sd, scr, s _ _ h1, h2, s _ _ h3, h4⟩
theorem St.upd (h : St a sc H) (h1 : p ≠ a) (h2 : p ≠ sc) : St a sc (upd H p o) := by
  obtain ⟨n, i, sd, scr, e1, e2, e3, e4⟩ := h
  exact ⟨n, i, sd, scr, by rw [upd_ne (Ne.symm h1)]; exact e1, e2, by rw [upd_ne (Ne.symm h2)]; exact e3, e4⟩
theorem St.ne (h : St a sc H) (hp : H p = none) : p ≠ a ∧ p ≠ sc := by
  obtain ⟨n, i, sd, scr, e1, e2, e3, e4⟩ := h
  exact ⟨fun z => (by rw [z, e1] at hp; cases hp), fun z => (by rw [z, e3] at hp; cases hp)⟩
/-- under a frame that leaves the state alone -/
theorem St.fr {M : List Addr} (h : St a sc H) (s : Fr M H H') (h1 : a ∉ M) (h2 : sc ∉ M) : St a sc H' := by
  obtain ⟨n, i, sd, scr, e1, e2, e3, e4⟩ := h
  exact ⟨n, i, sd, scr, s.keep h1 e1, e2, s.keep h2 e3, e4⟩
/-- the state is a list: tuples stay -/
theorem tups_st (h : St a sc H) (s : Fr [a] H H') : Tups H H' := fun b xs hb => s.keep (fun z => by
  obtain ⟨n, i, sd, scr, e1, _⟩ := h
  rw [List.mem_singleton.mp z, e1] at hb
  cases hb) hb
end
section
variable {P : Program} {w : World} {K : PySem.W.Frag} {mg : Str → Option Value} {base : Heap}
@[irreducible] def spMix : Sp := fun vs H Q _ => ∃ c : Int, vs = [.int c] ∧ ∀ n : Int, Q (.int n) H
theorem spMix.i {H : Hp} {c : Int} {Q : VK} {E : XK} (q : ∀ n : Int, Q (.int n) H) : spMix [.int c] H Q E := by
  unfold spMix
  exact ⟨c, rfl, q⟩
theorem c_mix (T : TopF K mg) : Cal P w K mg base CX0 1 "_law_mix" ["_law_cell"] spMix := by
  refine k_L_mix T (fun vs H Q E h => by unfold spMix at h; obtain ⟨_, rfl, _⟩ := h; rfl) (fun cdv A outer s H vs Q E hr h => ?_)
  unfold spMix at h
  obtain ⟨c, rfl, q⟩ := h
  refine ⟨_, pss_cons (ps_set (i := 1) sc_L_mix.nd rfl (Or.inl rfl) (pe_op op_mod (pe_callTy call_int1 rfl T.z_int (by decide +kernel) (pa_cons (pv 0) pa_nil)) pe_int))
    (pss_cons (ps_set (i := 1) sc_L_mix.nd rfl (Or.inl rfl) (pe_op op_mod (pe_callTy call_int1 rfl T.z_int (by decide +kernel) (pa_cons (pe_op op_add (pe_op op_mul (pv 1) pe_int) pe_int) pa_nil)) pe_int))
    (pss_one (ps_ret (pe_op op_mod (pe_callTy call_int1 rfl T.z_int (by decide +kernel) (pa_cons (pe_op op_add (pe_op op_mul (pv 1) pe_int) pe_int) pa_nil)) pe_int)))), ?_⟩
  have big : (0 : Int) < 2147483647 := by decide
  have big2 : (0 : Int) < 2147483629 := by decide
  refine rd_let (rd_op (rd_B1 (rd_var rfl (.inl ⟨c, rfl, _, _, rfl, rfl, big, ?_⟩))))
  refine rd_let (rd_op (rd_B1 (rd_op (rd_op (rd_var rfl ⟨_, _, rfl, rfl, .inr ⟨by decide, by decide⟩, _, _, rfl, rfl, .inl ⟨_, rfl, _, _, rfl, rfl, big, ?_⟩⟩)))))
  refine rd_ret (rd_op (rd_B1 (rd_op (rd_op (rd_var rfl ⟨_, _, rfl, rfl, .inr ⟨by decide, by decide⟩, _, _, rfl, rfl, .inl ⟨_, rfl, _, _, rfl, rfl, big2, q _⟩⟩)))))
theorem c_number (T : TopF K mg) : Cal P w K mg base CX0 2 "_law_number" ["_law_cell"] spMix := by
  refine k_L_number T (fun vs H Q E h => by unfold spMix at h; obtain ⟨_, rfl, _⟩ := h; rfl) (fun cdv A outer s H vs Q E hr h => ?_)
  unfold spMix at h
  obtain ⟨c, rfl, q⟩ := h
  refine ⟨_, pss_cons (ps_if (pt_cmpR op_ge (pv 0) (pe_op op_pow pe_int pe_int) (nomark _)) (pss_one (ps_ret (pv 0))) pss_nil)
    (pss_cons (ps_set (i := 1) sc_L_number.nd rfl (Or.inl rfl) (pe_cal (c_mix T) hr rfl pass0 (pa_cons (pv 0) pa_nil)))
    (pss_one (ps_ret (pe_op op_add (pe_op op_mul (pv 1) pe_int) (pe_cal (c_mix T) hr rfl pass0 (pa_cons (pe_op op_add (pv 1) (pv 0)) pa_nil)))))), ?_⟩
  refine rd_when1 (rd_test (rd_op (rd_var rfl (rd_op ⟨_, _, rfl, rfl, ⟨by decide, by decide, by decide⟩, _, _, rfl, rfl, _, rfl, ?_⟩))))
  split
  · exact rd_ret (rd_var rfl (q _))
  · refine rd_let (rd_call1 (rd_var rfl (spMix.i fun m => ?_)))
    refine rd_ret (rd_op (rd_op (rd_var rfl ⟨_, _, rfl, rfl, .inr ⟨by decide, by decide⟩, rd_call1 (rd_op (rd_var rfl (rd_var rfl ⟨_, _, rfl, rfl, spMix.i fun m2 => ⟨_, _, rfl, rfl, q _⟩⟩)))⟩)))
@[irreducible] def spDraw : Sp := fun vs H Q _ => ∃ (a sc : Addr) (many : Int), vs = [.ref a, .int many] ∧ 0 < many ∧ many < 1000000 ∧ St a sc H ∧ ∀ (n : Nat) H', (n : Int) < many → Fr [a] H H' → St a sc H' → Q (.int n) H'
theorem spDraw.i {H : Hp} {a sc : Addr} {many : Int} {Q : VK} {E : XK} (h1 : 0 < many) (h2 : many < 1000000) (h3 : St a sc H) (q : ∀ (n : Nat) H', (n : Int) < many → Fr [a] H H' → St a sc H' → Q (.int n) H') : spDraw [.ref a, .int many] H Q E := by
  unfold spDraw
  exact ⟨a, sc, many, rfl, h1, h2, h3, q⟩
theorem rd_put {σ : L2.St} {H : Hp} {D : Ends} {te ti to : TE} (h : te σ H fun v H1 => to σ H1 fun o H2 => ti σ H2 fun i H3 => L2.rSetL o i v H3 fun H4 => D.nx σ H4) : tAsg te (gSub to ti L2.rSetL) D σ H := h
theorem c_draw (T : TopF K mg) : Cal P w K mg base CX0 3 "_law_draw" ["_law_state_here", "_law_many"] spDraw := by
  refine k_L_draw T (fun vs H Q E h => by unfold spDraw at h; obtain ⟨_, _, _, rfl, _⟩ := h; rfl) (fun cdv A outer s H vs Q E hr h => ?_)
  unfold spDraw at h
  obtain ⟨a, sc, many, rfl, hm1, hm2, ⟨n, i, sd, scr, h1, h2, h3, h4⟩, q⟩ := h
  have at3 : ∀ {x y z u : V} {xs : List V}, atI (x :: y :: z :: u :: xs) 3 = some u := fun {x y z u xs} => atI_nat (j := 3) rfl
  obtain ⟨tB, hB, qB⟩ : ∃ tB, PSs (cxOf CX0 P w K mg base ["_law_state_here", "_law_many", "_law_value_here"] "_law_draw" (defScope s_L_draw) (He.ga K "_law_draw") cdv A outer s H E).nox ((defBody s_L_draw).tail) tB ∧
      ∀ (n i sd : Int) (H1 : Hp), Fr [a] H H1 → H1 a = some (.lst [.int n, .ref sc, .int i, .int sd]) → 0 ≤ i → tB { nx := fun _ H' => Q .non H', rt := Q } (start ["_law_state_here", "_law_many", "_law_value_here"] [.ref a, .int many]) H1 := by
    refine ⟨_, pss_cons (ps_if (pt_cmpR op_eq (pe_ix ix_list (pv 0) pe_int (fun _ _ => rfl)) pe_int (nomark _))
      (pss_cons (ps_asg (pe_op op_mod (pe_callTy call_int1 rfl T.z_int (by decide +kernel) (pa_cons (pe_op op_add (pe_op op_mul (pe_ix ix_list (pv 0) pe_int (fun _ _ => rfl)) pe_int) pe_int) pa_nil)) pe_int) (pg_sub (pv 0) pe_int set_list))
      (pss_one (ps_ret (pe_op op_mod (pe_callTy call_int1 rfl T.z_int (by decide +kernel) (pa_cons (pe_op op_fdiv (pe_ix ix_list (pv 0) pe_int (fun _ _ => rfl)) pe_int) pa_nil)) (pv 1))))) pss_nil)
    (pss_cons (ps_set (i := 2) sc_L_draw.nd rfl (Or.inl rfl) (pe_op op_mod (pe_callTy call_int1 rfl T.z_int (by decide +kernel) (pa_cons (pe_ix ix_list (pv 0) pe_int (fun _ _ => rfl)) pa_nil)) (pv 1)))
    (pss_cons (ps_asg (pe_op op_fdiv (pe_ix ix_list (pv 0) pe_int (fun _ _ => rfl)) (pv 1)) (pg_sub (pv 0) pe_int set_list))
    (pss_one (ps_ret (pv 2))))), fun n i sd H1 fr e1 e2 => ?_⟩
    have e3 : H1 sc = some (.lst (scr.map V.int)) := fr.keep (fun z => h4 (List.mem_singleton.mp z)) h3
    have sn : H1 sc = (upd H1 a (.lst [.int n, .ref sc, .int i, .int sd])) sc := by rw [upd_ne h4]
    have res : ∀ x : Int, ∃ k : Nat, x % many = (k : Int) ∧ (k : Int) < many := fun x => ⟨(x % many).toNat, by have := Int.emod_nonneg x (by omega : many ≠ 0); omega, by have := Int.emod_lt_of_pos x hm1; have := Int.emod_nonneg x (by omega : many ≠ 0); omega⟩
    have up : ∀ xs : List V, Fr [a] H (upd H1 a (.lst xs)) := fun xs => fr.trans (Fr.mem List.mem_cons_self)
    have stn : ∀ n i sd : Int, 0 ≤ i → St a sc (upd H1 a (.lst [.int n, .ref sc, .int i, .int sd])) := fun n i sd hi => ⟨n, i, sd, scr, upd_same, hi, by rw [upd_ne h4]; exact e3, h4⟩
    refine rd_when1 (rd_test (rd_op (rd_ixLc rfl e1 at0 ⟨rfl, _, rfl, ?_⟩)))
    split
    · refine rd_seq (rd_put (rd_op (rd_B1 (rd_op (rd_op (rd_ixLc rfl e1 at3 ⟨_, _, rfl, rfl, .inr ⟨by decide, by decide⟩, _, _, rfl, rfl, .inl ⟨_, rfl, _, _, rfl, rfl, (show (0 : Int) < 2147483647 by decide), _, rfl, a, _, 3, 3, rfl, rfl, e1, rfl, ?_⟩⟩))))))
      refine rd_nx (rd_ret (rd_op (rd_B1 (rd_op (rd_ixLc rfl upd_same at3 ⟨_, _, rfl, rfl, ⟨by decide, by decide⟩, .inl ⟨_, rfl, _, rfl, _, _, rfl, rfl, hm1, ?_⟩⟩)))))
      obtain ⟨k, ek, hk⟩ := res ((sd * 48271 + 7) % 2147483647 / 11)
      show Q (.int ((sd * 48271 + 7) % 2147483647 / 11 % many)) _
      rw [ek]
      exact q k _ hk (up _) (stn _ _ _ e2)
    · refine rd_let (rd_op (rd_B1 (rd_ixLc rfl e1 at0 (.inl ⟨_, rfl, _, rfl, _, _, rfl, rfl, hm1, ?_⟩))))
      refine rd_seq (rd_put (rd_op (rd_ixLc rfl e1 at0 ⟨_, rfl, _, _, rfl, rfl, ⟨hm1, by omega⟩, _, rfl, a, _, 0, 0, rfl, rfl, e1, rfl, rd_nx (rd_ret (rd_var rfl ?_))⟩)))
      obtain ⟨k, ek, hk⟩ := res n
      show Q (.int (n % many)) _
      rw [ek]
      exact q k _ hk (up _) (stn _ _ _ e2)
  refine ⟨_, pss_cons (ps_if (PW.pt (pw_and (pt_cmpR op_lt (pe_ix ix_list (pv 0) pe_int (fun _ _ => rfl)) (pv 1) (nomark _)) (pw_and1 (pt_cmpR op_lt (pe_ix ix_list (pv 0) pe_int (fun _ _ => rfl)) (pe_callB call_len rfl T.z_len (by decide +kernel) (pa_cons (pe_ix ix_list (pv 0) pe_int (fun _ _ => rfl)) pa_nil)) (nomark _)))))
      (pss_cons (ps_asg (pe_cal (c_number T) hr rfl pass0 (pa_cons (pe_ix ix_list (pe_ix ix_list (pv 0) pe_int (fun _ _ => rfl)) (pe_ix ix_list (pv 0) pe_int (fun _ _ => rfl)) (fun _ _ => rfl)) pa_nil)) (pg_sub (pv 0) pe_int set_list))
      (pss_one (ps_asg (pe_op op_add (pe_ix ix_list (pv 0) pe_int (fun _ _ => rfl)) pe_int) (pg_sub (pv 0) pe_int set_list)))) pss_nil) hB, ?_⟩
  refine rd_when1 (rd_and (rd_test (rd_op (rd_ixLc rfl h1 at0 (rd_var rfl ⟨_, _, rfl, rfl, _, rfl, ?_⟩)))))
  split
  · refine rd_test (rd_op (rd_ixLc rfl h1 at2 (rd_B1 (rd_ixLc rfl h1 at1 ⟨_, _, rfl, .inl ⟨_, sql h3, rfl⟩, _, _, rfl, rfl, _, rfl, ?_⟩))))
    split
    · rename_i hlt
      have hlt := of_decide_eq_true hlt
      rw [List.length_map] at hlt
      have hi : (scr.map V.int)[i.toNat]? = some (.int (scr[i.toNat]'(by omega))) := by
        rw [List.getElem?_map, List.getElem?_eq_getElem (by omega)]
        rfl
      have hi' : atI (scr.map V.int) i = some (.int (scr[i.toNat]'(by omega))) := by
        have := atI_nat hi
        rwa [Int.toNat_of_nonneg h2] at this
      refine rd_seq (rd_put (rd_call1 (rd_ixL (rd_ixLc rfl h1 at1 (rd_ixLc rfl h1 at2 ⟨sc, _, i, _, rfl, rfl, sql h3, hi', spMix.i fun m => ⟨_, rfl, a, _, 0, 0, rfl, rfl, h1, rfl, ?_⟩⟩)))))
      refine rd_nx (rd_put (rd_op (rd_ixLc rfl upd_same at2 ⟨_, _, rfl, rfl, _, rfl, a, _, 2, 2, rfl, rfl, upd_same, rfl, rd_nx (qB m (i + 1) sd _ ((Fr.mem List.mem_cons_self).trans (Fr.mem List.mem_cons_self)) upd_same (by omega))⟩)))
    · exact qB n i sd H Fr.refl h1 h2
  · exact qB n i sd H Fr.refl h1 h2
end
end K65
namespace K65
open PySem PySem.Spec PyProof.Rows L2 TL
/-! ### the state; names -/
/-- a name: short, of signs that are signs -/
structure Nm (L : Nat) (s : Str) : Prop where
  len : s.length ≤ L
  ok : ∀ c ∈ tl s, c < 1000
theorem Nm.strOk {L : Nat} {s : Str} (h : Nm L s) : PyData.strOk s = true := by
  show (s.cps.all (· < 0x110000)) = true
  rw [← Array.all_toList]
  exact List.all_eq_true.mpr fun c hc => decide_eq_true (Nat.lt_trans (h.ok c hc) (by decide))
theorem joinL_mem {c : Nat} : ∀ {ps : List (List Nat)}, c ∈ joinL [] ps → ∃ p ∈ ps, c ∈ p
  | [], h => by cases h
  | [p], h => ⟨p, List.mem_cons_self, h⟩
  | p :: q :: r, h => by
    have h : c ∈ p ++ ([] ++ joinL [] (q :: r)) := h
    rcases List.mem_append.mp h with h | h
    · exact ⟨p, List.mem_cons_self, h⟩
    · obtain ⟨x, hx, hc⟩ := joinL_mem (ps := q :: r) h
      exact ⟨x, List.mem_cons_of_mem _ hx, hc⟩
theorem joinL_len {k : Nat} : ∀ {ps : List (List Nat)}, (∀ p ∈ ps, p.length ≤ k) → (joinL [] ps).length ≤ ps.length * k
  | [], h => Nat.zero_le _
  | [p], h => by
    have := h p List.mem_cons_self
    show p.length ≤ 1 * k
    omega
  | p :: q :: r, h => by
    have h1 := h p List.mem_cons_self
    have h2 := joinL_len (k := k) (ps := q :: r) fun x hx => h x (List.mem_cons_of_mem _ hx)
    show (p ++ ([] ++ joinL [] (q :: r))).length ≤ ((q :: r).length + 1) * k
    rw [List.length_append, List.nil_append, Nat.add_mul]
    omega
def lettersS : Str := "abcdefghijklmnopqrstuvwxyz"
theorem letter {n : Nat} (h : n < 26) : ∃ c, atI lettersS.cps.toList (n : Int) = some c ∧ c < 1000 := by
  have hl : lettersS.cps.toList.length = 26 := by decide +kernel
  have ha : (lettersS.cps.toList.all fun c => decide (c < 1000)) = true := by decide +kernel
  have e : lettersS.cps.toList[n]? = some lettersS.cps.toList[n] := List.getElem?_eq_getElem _
  refine ⟨_, atI_nat e, ?_⟩
  exact of_decide_eq_true (List.all_eq_true.mp ha _ (List.getElem_mem _))
theorem sqL_new {K : PySem.W.Frag} {H : Hp} {p q : Addr} {xs : List V} {o : HO} (h : SqL K H p xs) (hq : H q = none) : SqL K (upd H q o) p xs := by
  rcases h with h | h
  · refine .inl ?_
    rcases h with h | ⟨u, h⟩
    · exact .inl (Same.new hq o _ _ h)
    · exact .inr ⟨u, Same.new hq o _ _ h⟩
  · exact .inr h
section
variable {P : Program} {w : World} {K : PySem.W.Frag} {mg : Str → Option Value} {base : Heap}
@[irreducible] def spState (K : PySem.W.Frag) : Sp := fun vs H Q _ => ∃ (p : Addr) (scr : List Int), vs = [.ref p] ∧ SqL K H p (scr.map V.int) ∧ scr.length ≤ 1000 ∧ ∀ a sc H', Same H H' → St a sc H' → H a = none → Q (.ref a) H'
theorem c_state (T : TopF K mg) : Cal P w K mg base CX0 1 "_law_state" ["_law_script"] (spState K) := by
  refine k_L_state T (fun vs H Q E h => by unfold spState at h; obtain ⟨_, _, rfl, _⟩ := h; rfl) (fun cdv A outer s H vs Q E hr h => ?_)
  unfold spState at h
  obtain ⟨p, scr, rfl, hp, hl, q⟩ := h
  refine ⟨_, pss_one (ps_ret (pe_lst (pa_cons pe_int (pa_cons (pe_callTy call_list_of rfl T.z_list (by decide +kernel) (pa_cons (pv 0) pa_nil)) (pa_cons pe_int (pa_cons (pe_op op_add pe_int (pe_callB call_len rfl T.z_len (by decide +kernel) (pa_cons (pv 0) pa_nil))) pa_nil)))))), ?_⟩
  refine rd_ret (rd_lst (rd_cons4 (rd_c (rd_B1 (rd_var rfl ⟨p, _, rfl, .inl hp, fun sc nsc => rd_c (rd_op (rd_c (rd_B1 (rd_var rfl ⟨_, _, rfl, .inl ⟨scr.map V.int, sqL_new hp nsc, rfl⟩, _, _, rfl, rfl, ln_ok, fun a na => ?_⟩))))⟩)))))
  · have h1 : Same H (upd H sc (.lst (scr.map V.int))) := Same.new nsc _
    have h2 : Same (upd H sc (.lst (scr.map V.int))) (upd (upd H sc (.lst (scr.map V.int))) a (.lst [.int 0, .ref sc, .int 0, .int (1 + ((scr.map V.int).length : Nat))])) := Same.new na _
    have hne : sc ≠ a := fun z => by rw [← z, upd_same] at na; cases na
    exact q a sc _ (h1.trans h2) ⟨_, _, _, scr, upd_same, Int.le_refl 0, h2 _ _ upd_same, hne⟩ (h1.free na)
@[irreducible] def spWord : Sp := fun vs H Q _ => ∃ a sc m, vs = [.ref a, .int ((m : Nat) : Int)] ∧ m ≤ 10 ∧ St a sc H ∧ ∀ z H', Nm 10 z → Fr [a] H H' → St a sc H' → Q (.str z) H'
theorem spWord.i {H : Hp} {a sc : Addr} {m : Nat} {Q : VK} {E : XK} (h1 : m ≤ 10) (h2 : St a sc H) (q : ∀ z H', Nm 10 z → Fr [a] H H' → St a sc H' → Q (.str z) H') : spWord [.ref a, .int (m : Int)] H Q E := by
  unfold spWord
  exact ⟨a, sc, m, rfl, h1, h2, q⟩
theorem c_word (T : TopF K mg) : Cal P w K mg base CX0 4 "_law_word" ["_law_state_here", "_law_many"] spWord := by
  refine k_L_word T (fun vs H Q E h => by unfold spWord at h; obtain ⟨_, _, _, rfl, _⟩ := h; rfl) (fun cdv A outer s H vs Q E hr h => ?_)
  unfold spWord at h
  obtain ⟨a, sc, m, rfl, hm, hst, q⟩ := h
  refine ⟨_, pss_cons (ps_set (i := 2) sc_L_word.nd rfl (Or.inr rfl) pe_str)
    (pss_one (ps_ret (pe_join pe_str (pe_lc (own := [("_law_k", 3)]) (g := gName 3) (tt := tYes) rfl sc_L_word.nd (pi_range1 rfl T.z_range (pa_cons (pv 1) pa_nil)) (blkOk_by (N := ["_law_state_here", "_law_many", "_law_letters", "_law_k"]) (sc := defScope s_L_word) (by decide +kernel)) (fun _ _ _ _ _ => pg_name (i := 3) sc_L_word.nd rfl (Or.inl rfl)) (fun _ _ _ _ _ => pts_nil)
      (fun _ _ _ _ _ => pe_ix ix_str (pv 2) (pe_cal (c_draw T) hr rfl pass0 (pa_cons (pv 0) (pa_cons pe_int pa_nil))) (fun _ _ => rfl)))))), ?_⟩
  refine rd_let (rd_c (rd_ret ?_))
  refine ⟨⟨_, rfl⟩, _, rfl, _, rfl, by omega, by omega, fun D nD => ?_⟩
  obtain ⟨na, ns⟩ := hst.ne nD
  have fr0 : Fr [a] H (upd H D (.lst [])) := Fr.new nD
  rw [show ((m : Nat) : Int).toNat = m from Int.toNat_natCast _]
  refine lc_range (lo := 0) (n := m) (fun i H' => ∃ ys : List Str, ys.length = i ∧ (∀ y ∈ ys, ∃ c, c < 1000 ∧ y = ⟨#[c]⟩) ∧ H' D = some (.lst (ys.map V.str)) ∧ Fr [a] H H' ∧ St a sc H') ⟨[], rfl, (fun _ z => (by cases z)), upd_same, fr0, hst.upd na ns⟩ ?_ ?_
  · rintro i H1 hi ⟨ys, hl, hy, hD, fr, st⟩
    refine ⟨rfl, rd_yes (iteT ?_)⟩
    refine rd_op (rd_var rfl (rd_call2 (rd_var rfl (rd_c (spDraw.i (by decide) (by decide) st fun n H2 hn f2 s2 => ?_)))))
    obtain ⟨c, hc, hc2⟩ := letter (n := n) (by omega)
    have hD2 : H2 D = some (.lst (ys.map V.str)) := f2.keep (fun z => na (List.mem_singleton.mp z)) hD
    refine ⟨lettersS, (n : Int), c, rfl, rfl, by rw [sizeLine_eq]; decide +kernel, hc, _, hD2, by rw [List.length_map, sizeLine_eq]; omega, ys ++ [⟨#[c]⟩], by rw [List.length_append, hl]; rfl, (fun y hy2 => ?_), by rw [upd_same, List.map_append]; rfl, (fr.trans f2).mut (no_none nD), s2.upd na ns⟩
    rcases List.mem_append.mp hy2 with z | z
    · exact hy y z
    · exact ⟨c, hc2, List.mem_singleton.mp z⟩
  · rintro H1 ⟨ys, hl, hy, hD, fr, st⟩
    have h1 : ∀ p ∈ ys.map tl, p.length ≤ 1 := fun p hp => by
      obtain ⟨y, hy1, rfl⟩ := List.mem_map.mp hp
      obtain ⟨c, _, rfl⟩ := hy y hy1
      exact Nat.le_refl _
    have hsum : ∀ l : List Str, (∀ y ∈ l, ∃ c, c < 1000 ∧ y = (⟨#[c]⟩ : Str)) → (l.map (·.length)).sum = l.length := fun l => by
      induction l with
      | nil => intro _; rfl
      | cons y r ih =>
        intro h
        obtain ⟨c, _, e⟩ := h y List.mem_cons_self
        rw [List.map_cons, List.sum_cons, ih fun y hy => h y (List.mem_cons_of_mem _ hy), List.length_cons, e]
        show 1 + _ = _
        omega
    refine ⟨_, D, ys, rfl, rfl, .inl (sql hD), ?_, q _ H1 ⟨?_, fun c hc => ?_⟩ fr st⟩
    · rw [hsum ys hy, hl]
      show m + m * 0 ≤ _
      omega
    · rw [join_eq, len_tl, tl_join]
      have := joinL_len (k := 1) h1
      rw [List.length_map, hl] at this
      exact Nat.le_trans this (by omega)
    · rw [join_eq, tl_join] at hc
      obtain ⟨p, hp, hcp⟩ := joinL_mem hc
      obtain ⟨y, hy1, rfl⟩ := List.mem_map.mp hp
      obtain ⟨c', hc', rfl⟩ := hy y hy1
      have e : c = c' := by simpa using hcp
      rw [e]
      exact hc'
/-! ### names, operations -/
theorem Nm.app {L L' : Nat} {s t : Str} (h : Nm L s) (h' : Nm L' t) : Nm (L + L') (s ++ t) := by
  refine ⟨?_, fun c hc => ?_⟩
  · have h1 := h.len
    have h2 := h'.len
    rw [len_tl] at h1 h2 ⊢
    rw [tl_append, List.length_append]
    omega
  · rw [tl_append] at hc
    exact (List.mem_append.mp hc).elim (h.ok c) (h'.ok c)
theorem Nm.one {c : Nat} (h : c < 1000) : Nm 1 (⟨#[c]⟩ : Str) := ⟨Nat.le_refl _, fun d hd => by
  have e : d = c := by simpa using hd
  rw [e]; exact h⟩
@[irreducible] def spNames : Sp := fun vs H Q _ => ∃ a sc m, vs = [.ref a, .int ((m : Nat) : Int)] ∧ m ≤ 10 ∧ St a sc H ∧ ∀ D (ns : List Str) H', ns.length = m → (∀ z ∈ ns, Nm 30 z) → H D = none → H' D = some (.lst (ns.map V.str)) → Fr [a] H H' → St a sc H' → Q (.ref D) H'
theorem spNames.i {H : Hp} {a sc : Addr} {m : Nat} {Q : VK} {E : XK} (h1 : m ≤ 10) (h2 : St a sc H) (q : ∀ D (ns : List Str) H', ns.length = m → (∀ z ∈ ns, Nm 30 z) → H D = none → H' D = some (.lst (ns.map V.str)) → Fr [a] H H' → St a sc H' → Q (.ref D) H') : spNames [.ref a, .int (m : Int)] H Q E := by
  unfold spNames
  exact ⟨a, sc, m, rfl, h1, h2, q⟩
/-- what is fresh after a draw was fresh before it -/
theorem St.fresh {a sc p : Addr} {H H' : Hp} (h : St a sc H) (s : Fr [a] H H') (st : St a sc H') (hp : H' p = none) : H p = none := by
  cases e : H p with
  | none => rfl
  | some o =>
    by_cases z : p = a
    · have := (st.ne hp).1
      exact absurd z this
    · rw [s.keep (fun y => z (List.mem_singleton.mp y)) e] at hp
      cases hp
theorem c_names (T : TopF K mg) : Cal P w K mg base CX0 5 "_law_names" ["_law_state_here", "_law_count"] spNames := by
  refine k_L_names T (fun vs H Q E h => by unfold spNames at h; obtain ⟨_, _, _, rfl, _⟩ := h; rfl) (fun cdv A outer s H vs Q E hr h => ?_)
  unfold spNames at h
  obtain ⟨a, sc, m, rfl, hm, hst, q⟩ := h
  refine ⟨_, pss_cons (ps_set (i := 2) sc_L_names.nd rfl (Or.inr rfl) pe_str)
    (pss_cons (ps_set (i := 3) sc_L_names.nd rfl (Or.inr rfl) (pe_cal (c_word T) hr rfl pass0 (pa_cons (pv 0) (pa_cons (pe_cal (c_draw T) (hr.mono (by omega)) rfl pass0 (pa_cons (pv 0) (pa_cons pe_int pa_nil))) pa_nil))))
    (pss_cons (ps_set (i := 4) sc_L_names.nd rfl (Or.inr rfl) (pe_cal (c_word T) hr rfl pass0 (pa_cons (pv 0) (pa_cons (pe_cal (c_draw T) (hr.mono (by omega)) rfl pass0 (pa_cons (pv 0) (pa_cons pe_int pa_nil))) pa_nil))))
    (pss_cons (ps_set (i := 5) sc_L_names.nd rfl (Or.inr rfl) (pe_cal (c_draw T) (hr.mono (by omega)) rfl pass0 (pa_cons (pv 0) (pa_cons pe_int pa_nil))))
    (pss_one (ps_ret (pe_lc (own := [("_law_k", 6)]) (g := gName 6) (tt := tYes) rfl sc_L_names.nd (pi_range1 rfl T.z_range (pa_cons (pv 1) pa_nil)) (blkOk_by (N := ["_law_state_here", "_law_count", "_law_letters", "_law_before", "_law_behind", "_law_first", "_law_k"]) (sc := defScope s_L_names) (by decide +kernel)) (fun _ _ _ _ _ => pg_name (i := 6) sc_L_names.nd rfl (Or.inl rfl)) (fun _ _ _ _ _ => pts_nil)
      (fun _ _ _ _ _ => pe_op op_add_str (pe_op op_add_str (pv 3) (pe_ix ix_str (pv 2) (pe_op op_mod (pe_callTy call_int1 rfl T.z_int (by decide +kernel) (pa_cons (pe_op op_add (pv 5) (pe_op op_mul pe_int (pv 6))) pa_nil)) pe_int) (fun _ _ => rfl))) (pv 4)))))))), ?_⟩
  refine rd_let (rd_c (rd_let ?_))
  refine rd_call2 (rd_var rfl (rd_call2 (rd_var rfl (rd_c (spDraw.i (by decide) (by decide) hst fun n H1 hn f1 s1 => spWord.i (by omega) s1 fun bef H2 hbef f2 s2 => ?_)))))
  refine rd_let (rd_call2 (rd_var rfl (rd_call2 (rd_var rfl (rd_c (spDraw.i (by decide) (by decide) s2 fun n2 H3 hn2 f3 s3 => spWord.i (by omega) s3 fun beh H4 hbeh f4 s4 => ?_))))))
  refine rd_let (rd_call2 (rd_var rfl (rd_c (spDraw.i (by decide) (by decide) s4 fun fi H5 hfi f5 s5 => ?_))))
  have f05 := (((f1.trans f2).trans f3).trans f4).trans f5
  refine rd_ret ⟨_, rfl, _, rfl, by omega, by omega, fun D nD => ?_⟩
  obtain ⟨na, ns⟩ := s5.ne nD
  have nH : H D = none := hst.fresh f05 s5 nD
  rw [show ((m : Nat) : Int).toNat = m from Int.toNat_natCast _]
  refine lc_range (lo := 0) (n := m) (fun i H' => ∃ ys : List Str, ys.length = i ∧ (∀ y ∈ ys, Nm 30 y) ∧ H' D = some (.lst (ys.map V.str)) ∧ Fr [a] H H' ∧ St a sc H') ⟨[], rfl, (fun _ z => (by cases z)), upd_same, f05.trans (Fr.new nD), s5.upd na ns⟩ ?_ ?_
  · rintro i H6 hi ⟨ys, hl, hy, hD, fr, st⟩
    refine ⟨rfl, rd_yes (iteT ?_)⟩
    obtain ⟨j, hj, hj2⟩ : ∃ j : Nat, ((fi : Int) + 3 * (0 + (i : Nat))) % 26 = (j : Int) ∧ j < 26 := ⟨(((fi : Int) + 3 * (0 + (i : Nat))) % 26).toNat, by omega, by omega⟩
    obtain ⟨c, hc, hc2⟩ := letter hj2
    refine rd_op (rd_op (rd_var rfl (rd_op (rd_var rfl (rd_op (rd_B1 (rd_op (rd_var rfl (rd_op (rd_c (rd_var rfl ⟨_, _, rfl, rfl, .inl ⟨by decide, by decide⟩, _, _, rfl, rfl, .inl ⟨_, rfl, _, _, rfl, rfl, (show (0 : Int) < 26 by decide), lettersS, _, c, rfl, rfl, by rw [sizeLine_eq]; decide +kernel, by rw [hj]; exact hc, _, _, rfl, rfl, ?_, ?_⟩⟩)))))))))))
    · have := hbef.len
      rw [sizeLine_eq]
      show bef.length + 1 ≤ _
      omega
    have nm1 := hbef.app (Nm.one hc2)
    have nm2 := nm1.app hbeh
    refine rd_var rfl ⟨_, _, rfl, rfl, ?_, _, hD, by rw [List.length_map, sizeLine_eq]; omega, ys ++ [bef ++ ⟨#[c]⟩ ++ beh], by rw [List.length_append, hl]; rfl, (fun y hy2 => ?_), by rw [upd_same, List.map_append]; rfl, fr.mut (no_none nH), st.upd na ns⟩
    · have h1 := nm1.len
      have h2 := hbeh.len
      rw [sizeLine_eq]
      omega
    · rcases List.mem_append.mp hy2 with z | z
      · exact hy y z
      · rw [List.mem_singleton.mp z]
        exact ⟨Nat.le_trans nm2.len (by decide), nm2.ok⟩
  · rintro H6 ⟨ys, hl, hy, hD, fr, st⟩
    exact q D ys H6 hl hy nH hD fr st
/-- an operation: its name, its arity -/
abbrev Op := Str × Nat
def IsOp (H : Hp) (o : Op) (v : V) : Prop := ∃ p, v = .ref p ∧ H p = some (.tup [.str o.1, .int (o.2 : Int)])
theorem IsOp.mono {H H' : Hp} (s : Tups H H') {o : Op} {v : V} (h : IsOp H o v) : IsOp H' o v := by
  obtain ⟨p, e, h1⟩ := h
  exact ⟨p, e, s _ _ h1⟩
/-- the operations that are drawn -/
structure GoodOps (ops : List Op) : Prop where
  l4 : 4 ≤ ops.length
  l5 : ops.length ≤ 5
  ar : ∀ (i : Nat) (o : Op), ops[i]? = some o → some o.2 = ([0, 0, 1, 2, 3] : List Nat)[i]?
  nm : ∀ o ∈ ops, Nm 30 o.1
@[irreducible] def spOps : Sp := fun vs H Q _ => ∃ a sc, vs = [.ref a] ∧ St a sc H ∧ ∀ D (ops : List Op) os H', GoodOps ops → H D = none → H' D = some (.lst os) → A2 (IsOp H') ops os → Fr [a] H H' → St a sc H' → Q (.ref D) H'
theorem c_ops (T : TopF K mg) : Cal P w K mg base CX0 6 "_law_operations" ["_law_state_here"] spOps := by
  refine k_L_operations T (fun vs H Q E h => by unfold spOps at h; obtain ⟨_, _, rfl, _⟩ := h; rfl) (fun cdv A outer s H vs Q E hr h => ?_)
  unfold spOps at h
  obtain ⟨a, sc, rfl, hst, q⟩ := h
  refine ⟨_, pss_cons (ps_set (i := 1) sc_L_operations.nd rfl (Or.inr rfl) (pe_cal (c_names T) hr rfl pass0 (pa_cons (pv 0) (pa_cons pe_int pa_nil))))
    (pss_cons (ps_set (i := 2) sc_L_operations.nd rfl (Or.inr rfl) (pe_lst (pa_cons pe_int (pa_cons pe_int (pa_cons pe_int (pa_cons pe_int (pa_cons pe_int pa_nil)))))))
    (pss_one (ps_ret (pe_lc (own := [("_law_k", 3)]) (g := gName 3) (tt := tYes) rfl sc_L_operations.nd (pi_range1 rfl T.z_range (pa_cons (pe_op op_add pe_int (pe_cal (c_draw T) (hr.mono (by omega)) rfl pass0 (pa_cons (pv 0) (pa_cons pe_int pa_nil)))) pa_nil)) (blkOk_by (N := ["_law_state_here", "_law_names_here", "_law_arities", "_law_k"]) (sc := defScope s_L_operations) (by decide +kernel)) (fun _ _ _ _ _ => pg_name (i := 3) sc_L_operations.nd rfl (Or.inl rfl)) (fun _ _ _ _ _ => pts_nil)
      (fun _ _ _ _ _ => pe_tup (pa_cons (pe_ix (r := rIxL K) ix_list (pv 1) (pv 3) (fun _ _ => rfl)) (pa_cons (pe_ix (r := rIxL K) ix_list (pv 2) (pv 3) (fun _ _ => rfl)) pa_nil))))))), ?_⟩
  refine rd_let (rd_call2 (rd_var rfl (rd_c (spNames.i (m := 5) (by decide) hst fun D1 ns H1 hl1 hn1 nD1 h1 f1 s1 => ?_))))
  refine rd_let (rd_lst ?_)
  refine ⟨ln_ok, fun D2 nD2 => ?_⟩
  obtain ⟨na2, ns2⟩ := s1.ne nD2
  have d12 : D1 ≠ D2 := fun z => by rw [z, nD2] at h1; cases h1
  have s2 : St a sc (upd H1 D2 (.lst [.int 0, .int 0, .int 1, .int 2, .int 3])) := s1.upd na2 ns2
  have f2 : Fr [a] H (upd H1 D2 (.lst [.int 0, .int 0, .int 1, .int 2, .int 3])) := f1.trans (Fr.new nD2)
  have h1' : (upd H1 D2 (.lst [.int 0, .int 0, .int 1, .int 2, .int 3])) D1 = some (.lst (ns.map V.str)) := by rw [upd_ne d12]; exact h1
  have nH2 : H D2 = none := hst.fresh f1 s1 nD2
  refine rd_ret ?_
  show iRng1 _ _ _ _
  refine rd_rng1 (rd_cons1 (rd_op (rd_c (rd_call2 (rd_var rfl (rd_c (spDraw.i (by decide) (by decide) s2 fun n H3 hn f3 s3 => ⟨4, (n : Int), rfl, rfl, _, rfl, by omega, by omega, fun D nD => ?_⟩)))))))
  obtain ⟨na, nsc⟩ := s3.ne nD
  have e1 : D1 ≠ a := fun z => by
    rw [z] at nD1
    exact (hst.ne nD1).1 rfl
  have k1 : H3 D1 = some (.lst (ns.map V.str)) := f3.keep (fun z => e1 (List.mem_singleton.mp z)) h1'
  have k2 : H3 D2 = some (.lst [.int 0, .int 0, .int 1, .int 2, .int 3]) := f3.keep (fun z => na2 (List.mem_singleton.mp z)) upd_same
  have dD1 : D1 ≠ D := fun z => by rw [z, nD] at k1; cases k1
  have dD2 : D2 ≠ D := fun z => by rw [z, nD] at k2; cases k2
  have f03 := f2.trans f3
  have nH : H D = none := hst.fresh f03 s3 nD
  rw [show ((4 : Int) + (n : Int)).toNat = 4 + n by omega]
  refine lc_range (lo := 0) (n := 4 + n) (fun i H' => ∃ (ops : List Op) (ys : List V), ops.length = i ∧ (∀ (j : Nat) (o : Op), ops[j]? = some o → some o.2 = ([0, 0, 1, 2, 3] : List Nat)[j]?) ∧ (∀ o ∈ ops, Nm 30 o.1) ∧ H' D = some (.lst ys) ∧ A2 (IsOp H') ops ys ∧ H' D1 = some (.lst (ns.map V.str)) ∧ H' D2 = some (.lst [.int 0, .int 0, .int 1, .int 2, .int 3]) ∧ Fr [a] H H' ∧ St a sc H')
    ⟨[], [], rfl, (fun j o z => (by simp at z)), (fun _ z => (by cases z)), upd_same, A2.nil, by rw [upd_ne dD1]; exact k1, by rw [upd_ne dD2]; exact k2, f03.trans (Fr.new nD), s3.upd na nsc⟩ ?_ ?_
  · rintro i H4 hi ⟨ops, ys, hl, har, hnm, hD, hops, j1, j2, fr, st⟩
    refine ⟨rfl, rd_yes (iteT ?_)⟩
    have hi5 : i < ns.length := by omega
    have a1 : (ns.map V.str)[i]? = some (.str ns[i]) := by rw [List.getElem?_map, List.getElem?_eq_getElem hi5]; rfl
    obtain ⟨k, hk1, hk2⟩ : ∃ k : Nat, ([0, 0, 1, 2, 3] : List Nat)[i]? = some k ∧ ([.int 0, .int 0, .int 1, .int 2, .int 3] : List V)[i]? = some (.int (k : Int)) := by
      have hi5' : i < 5 := by omega
      match i, hi5' with
      | 0, _ => exact ⟨0, rfl, rfl⟩
      | 1, _ => exact ⟨0, rfl, rfl⟩
      | 2, _ => exact ⟨1, rfl, rfl⟩
      | 3, _ => exact ⟨2, rfl, rfl⟩
      | 4, _ => exact ⟨3, rfl, rfl⟩
    have at1' : atI (ns.map V.str) (0 + (i : Nat)) = some (.str ns[i]) := by rw [Int.zero_add]; exact atI_nat a1
    have at2' : atI ([.int 0, .int 0, .int 1, .int 2, .int 3] : List V) (0 + (i : Nat)) = some (.int (k : Int)) := by rw [Int.zero_add]; exact atI_nat hk2
    refine rd_tup (rd_cons2 (rd_ixLv rfl rfl j1 at1' (rd_ixLv rfl rfl j2 at2' ⟨ln_ok, fun p np => ?_⟩)))
    have pD : D ≠ p := fun z => by rw [z, np] at hD; cases hD
    obtain ⟨npa, nps⟩ := st.ne np
    have pD1 : D1 ≠ p := fun z => by rw [z, np] at j1; cases j1
    have pD2 : D2 ≠ p := fun z => by rw [z, np] at j2; cases j2
    have hDp : (upd H4 p (.tup [.str ns[i], .int (k : Int)])) D = some (.lst ys) := by rw [upd_ne pD]; exact hD
    have tt : Tups H4 (upd (upd H4 p (.tup [.str ns[i], .int (k : Int)])) D (.lst (ys ++ [.ref p]))) := (Tups.same (Same.new np _)).trans (tups_lst hDp)
    have hyl := hops.len
    refine ⟨ys, hDp, by rw [hyl, hl, sizeLine_eq]; omega, ops ++ [(ns[i], k)], ys ++ [.ref p], by rw [List.length_append, hl]; rfl, (fun j o hj => ?_), (fun o ho => ?_), upd_same, (hops.imp fun _ _ z => z.mono tt).app (A2.one ⟨p, rfl, ?_⟩), ?_, ?_, ?_, (st.upd npa nps).upd na nsc⟩
    · by_cases hjl : j < ops.length
      · rw [List.getElem?_append_left hjl] at hj
        exact har j o hj
      · rw [List.getElem?_append_right (by omega)] at hj
        have hj0 : j - ops.length = 0 := by
          have := (List.getElem?_eq_some_iff.mp hj).1
          simp at this
          omega
        rw [hj0] at hj
        cases hj
        rw [show j = i by omega, hk1]
    · rcases List.mem_append.mp ho with z | z
      · exact hnm o z
      · rw [List.mem_singleton.mp z]
        exact hn1 _ (List.getElem_mem _)
    · rw [upd_ne (Ne.symm pD), upd_same]
    · rw [upd_ne dD1, upd_ne pD1]; exact j1
    · rw [upd_ne dD2, upd_ne pD2]; exact j2
    · exact (fr.trans (Fr.new np)).mut (no_none nH)
  · rintro H4 ⟨ops, ys, hl, har, hnm, hD, hops, j1, j2, fr, st⟩
    exact q D ops ys H4 ⟨by omega, by omega, har, hnm⟩ nH hD hops fr st
end
end K65
namespace K65
open PySem PySem.Spec PyProof.Rows L2
/-! ### drawn terms -/
/-- x + (v,) -/
theorem cat_snoc {K : PySem.W.Frag} {H : Hp} {p : Addr} {xs : List V} {v : V} {Q : VK} (hp : H p = some (.tup xs)) (hl : xs.length ≤ 1000000) (q : ∀ r H2, Same H H2 → H2 r = some (.tup (xs ++ [v])) → Q (.ref r) H2) :
    [v].length ≤ sizeLine ∧ ∀ t, H t = none → rCatA K (.ref p) (.ref t) (upd H t (.tup [v])) Q := by
  refine ⟨ln_ok, fun t nt => ?_⟩
  have s1 : Same H (upd H t (.tup [v])) := Same.new nt _
  refine ⟨p, t, xs, [v], rfl, rfl, sqt (s1 _ _ hp), sqt upd_same, by rw [sizeLine_eq]; show xs.length + 1 ≤ _; omega, fun e => ?_, fun _ e => (by cases e), fun _ _ r nr => ?_⟩
  · subst e
    exact q t _ s1 upd_same
  · exact q r _ (s1.trans (Same.new nr _)) upd_same
def IsOps (H : Hp) (ops : List Op) (o : Addr) : Prop := ∃ os, H o = some (.lst os) ∧ A2 (IsOp H) ops os
theorem IsOps.ne {H : Hp} {ops : List Op} {o a sc : Addr} (h : IsOps H ops o) (g : GoodOps ops) (st : St a sc H) : o ≠ a := fun e => by
  obtain ⟨os, h1, h2⟩ := h
  obtain ⟨n, i, sd, scr, e1, _⟩ := st
  rw [e, e1] at h1
  have e2 := HO.lst.inj (Option.some.inj h1)
  have g4 := g.l4
  cases ops with
  | nil => simp at g4
  | cons op r =>
    obtain ⟨x, q, e3, ⟨p, e4, _⟩, _⟩ := h2
    rw [e4] at e3
    rw [← e2] at e3
    cases e3
theorem IsOps.fr {H H' : Hp} {ops : List Op} {o a sc : Addr} (h : IsOps H ops o) (g : GoodOps ops) (st : St a sc H) (s : Fr [a] H H') : IsOps H' ops o := by
  have hne := h.ne g st
  obtain ⟨os, h1, h2⟩ := h
  exact ⟨os, s.keep (fun z => hne (List.mem_singleton.mp z)) h1, h2.imp fun _ _ z => z.mono (tups_st st s)⟩
theorem IsOps.same {H H' : Hp} {ops : List Op} {o : Addr} (h : IsOps H ops o) (s : Same H H') : IsOps H' ops o := by
  obtain ⟨os, h1, h2⟩ := h
  exact ⟨os, s _ _ h1, h2.imp fun _ _ z => z.mono (Tups.same s)⟩
/-- variables below c, names of ops -/
structure Drawn (ops : List Op) (c : Nat) (t : Tm) : Prop where
  vs : ∀ n : Int, (.inl n : Key) ∈ t.syms → 0 ≤ n ∧ n < (c : Int)
  fs : t.ofs (ops.map (·.1))
def szT : Nat → Nat
  | 0 => 1
  | n + 1 => 1 + 3 * szT n
theorem szT_pos : ∀ n, 1 ≤ szT n
  | 0 => Nat.le_refl _
  | n + 1 => by show 1 ≤ 1 + _; omega
theorem sizes_app : ∀ (as bs : List Tm), Tm.sizes (as ++ bs) = Tm.sizes as + Tm.sizes bs
  | [], bs => by simp [Tm.sizes]
  | a :: as, bs => by simp only [List.cons_append, Tm.sizes, sizes_app as bs, Nat.add_assoc]
theorem depths_app : ∀ (as bs : List Tm), Tm.depths (as ++ bs) = max (Tm.depths as) (Tm.depths bs)
  | [], bs => by simp [Tm.depths]
  | a :: as, bs => by simp only [List.cons_append, Tm.depths, depths_app as bs, Nat.max_assoc]
theorem symss_mem {k : Key} : ∀ {as : List Tm}, k ∈ Tm.symss as ↔ ∃ t ∈ as, k ∈ t.syms
  | [] => by simp [Tm.symss]
  | a :: as => by simp [Tm.symss, symss_mem (as := as)]
theorem Drawn.app {ops : List Op} {c : Nat} {f : Str} {as : List Tm} (hf : f ∈ ops.map (·.1)) (h : ∀ t ∈ as, Drawn ops c t) : Drawn ops c (.a f as) := by
  refine ⟨fun n hn => ?_, fun g hg => ?_⟩
  · rcases List.mem_cons.mp hn with e | hn
    · cases e
    · obtain ⟨t, ht, hk⟩ := symss_mem.mp hn
      exact (h t ht).vs n hk
  · rcases List.mem_cons.mp hg with e | hg
    · cases e; exact hf
    · obtain ⟨t, ht, hk⟩ := symss_mem.mp hg
      exact (h t ht).fs g hk
theorem Drawn.var {ops : List Op} {c : Nat} {n : Int} (h0 : 0 ≤ n) (h : n < (c : Int)) : Drawn ops c (.v n) := by
  refine ⟨fun m hm => ?_, fun g hg => ?_⟩
  · rcases List.mem_cons.mp hm with e | hm
    · cases e; exact ⟨h0, h⟩
    · cases hm
  · rcases List.mem_cons.mp hg with e | hg
    · cases e
    · cases hg
section
variable {P : Program} {w : World} {K : PySem.W.Frag} {mg : Str → Option Value} {base : Heap}
@[irreducible] def spLeaf : Sp := fun vs H Q _ => ∃ a sc o ops c, vs = [.ref a, .ref o, .int ((c : Nat) : Int)] ∧ c < 100 ∧ St a sc H ∧ GoodOps ops ∧ IsOps H ops o ∧ ∀ v t H', IsTm H' t v → t.depth = 1 → t.size = 1 → Drawn ops c t → Fr [a] H H' → St a sc H' → Q v H'
theorem spLeaf.i {H : Hp} {a sc o : Addr} {ops : List Op} {c : Nat} {Q : VK} {E : XK} (h1 : c < 100) (h2 : St a sc H) (h3 : GoodOps ops) (h4 : IsOps H ops o) (q : ∀ v t H', IsTm H' t v → t.depth = 1 → t.size = 1 → Drawn ops c t → Fr [a] H H' → St a sc H' → Q v H') : spLeaf [.ref a, .ref o, .int (c : Int)] H Q E := by
  unfold spLeaf
  exact ⟨a, sc, o, ops, c, rfl, h1, h2, h3, h4, q⟩
theorem c_leaf (T : TopF K mg) : Cal P w K mg base CX0 4 "_law_leaf" ["_law_state_here", "_law_operations_here", "_law_count"] spLeaf := by
  refine k_L_leaf T (fun vs H Q E h => by unfold spLeaf at h; obtain ⟨_, _, _, _, _, rfl, _⟩ := h; rfl) (fun cdv A outer s H vs Q E hr h => ?_)
  unfold spLeaf at h
  obtain ⟨a, sc, o, ops, c, rfl, hc, hst, hg, ho, q⟩ := h
  obtain ⟨tB, hB, qB⟩ : ∃ tB, PSs (cxOf CX0 P w K mg base ["_law_state_here", "_law_operations_here", "_law_count"] "_law_leaf" (defScope s_L_leaf) (He.ga K "_law_leaf") cdv A outer s H E).nox ((defBody s_L_leaf).tail) tB ∧
      ∀ (H1 : Hp), Fr [a] H H1 → St a sc H1 → tB { nx := fun _ H' => Q .non H', rt := Q } (start ["_law_state_here", "_law_operations_here", "_law_count"] [.ref a, .ref o, .int (c : Int)]) H1 := by
    refine ⟨_, pss_one (ps_ret (pe_tup (pa_cons (pe_ix ix_tup (pe_ix ix_list (pv 1) (pe_cal (c_draw T) hr rfl pass0 (pa_cons (pv 0) (pa_cons pe_int pa_nil))) (fun _ _ => rfl)) pe_int (fun _ _ => rfl)) pa_nil))), fun H1 f1 s1 => ?_⟩
    have ho1 := ho.fr hg hst f1
    refine rd_ret (rd_tup (rd_cons1 (rd_ixT (rd_ixL (rd_var rfl (rd_call2 (rd_var rfl (rd_c (spDraw.i (by decide) (by decide) s1 fun n H2 hn f2 s2 => ?_)))))))))
    have ho2 := ho1.fr hg s1 f2
    obtain ⟨os, e1, e2⟩ := ho2
    have g4 := hg.l4
    have hn' : n < ops.length := by omega
    obtain ⟨x, hx, ⟨p, rfl, hp⟩⟩ := e2.nth (List.getElem?_eq_getElem hn')
    refine ⟨o, os, (n : Int), _, rfl, rfl, sql e1, atI_nat hx, p, _, 0, _, rfl, rfl, sqt hp, at0, ln_ok, fun r nr => ?_⟩
    exact q _ (.a ops[n].1 []) _ ⟨r, [], rfl, upd_same, rfl⟩ rfl rfl (Drawn.app (List.mem_map.mpr ⟨_, List.getElem_mem hn', rfl⟩) fun _ z => (by cases z)) ((f1.trans f2).trans (Fr.new nr)) (s2.upd (s2.ne nr).1 (s2.ne nr).2)
  refine ⟨_, pss_cons (ps_if (PW.pt (pw_and (pt_cmpR op_gt (pv 2) pe_int (nomark _)) (pw_and1 (pt_cmpR op_eq (pe_cal (c_draw T) hr rfl pass0 (pa_cons (pv 0) (pa_cons pe_int pa_nil))) pe_int (nomark _)))))
      (pss_one (ps_ret (pe_cal (c_draw T) hr rfl pass0 (pa_cons (pv 0) (pa_cons (pv 2) pa_nil))))) pss_nil) hB, ?_⟩
  refine rd_when1 (rd_and (rd_test (rd_op (rd_var rfl ⟨_, _, rfl, rfl, _, rfl, ?_⟩))))
  split
  · rename_i h0
    have h0 : (0 : Int) < (c : Int) := of_decide_eq_true h0
    refine rd_test (rd_op (rd_call2 (rd_var rfl (rd_c (spDraw.i (by decide) (by decide) hst fun n H1 hn f1 s1 => ⟨rfl, _, rfl, ?_⟩)))))
    split
    · refine rd_ret (rd_call2 (rd_var rfl (rd_var rfl (spDraw.i h0 (by omega) s1 fun n2 H2 hn2 f2 s2 => ?_))))
      exact q _ (.v (n2 : Int)) H2 rfl rfl rfl (Drawn.var (by omega) hn2) (f1.trans f2) s2
    · exact qB H1 f1 s1
  · exact qB H Fr.refl hst
@[irreducible] def spTerm (n : Nat) : Sp := fun vs H Q _ => ∃ a sc o ops c h, vs = [.ref a, .ref o, .int ((c : Nat) : Int), .int ((h : Nat) : Int)] ∧ h < n ∧ c < 100 ∧ St a sc H ∧ GoodOps ops ∧ IsOps H ops o ∧ ∀ v t H', IsTm H' t v → t.depth ≤ h + 1 → t.size ≤ szT h → Drawn ops c t → Fr [a] H H' → St a sc H' → Q v H'
theorem spTerm.i {n : Nat} {H : Hp} {a sc o : Addr} {ops : List Op} {c h : Nat} {Q : VK} {E : XK} (h0 : h < n) (h1 : c < 100) (h2 : St a sc H) (h3 : GoodOps ops) (h4 : IsOps H ops o) (q : ∀ v t H', IsTm H' t v → t.depth ≤ h + 1 → t.size ≤ szT h → Drawn ops c t → Fr [a] H H' → St a sc H' → Q v H') : spTerm n [.ref a, .ref o, .int (c : Int), .int (h : Int)] H Q E := by
  unfold spTerm
  exact ⟨a, sc, o, ops, c, h, rfl, h0, h1, h2, h3, h4, q⟩
theorem c_term (T : TopF K mg) : ∀ n : Nat, Cal P w K mg base CX0 (4 + n) "_law_term" ["_law_state_here", "_law_operations_here", "_law_count", "_law_height"] (spTerm n)
  | 0 => n_L_term T (fun vs H Q E h => by
    unfold spTerm at h
    obtain ⟨_, _, _, _, _, _, _, h, _⟩ := h
    omega)
  | n + 1 => by
    have ih := c_term T n
    refine k_L_term T (fun vs H Q E h => by unfold spTerm at h; obtain ⟨_, _, _, _, _, _, rfl, _⟩ := h; rfl) (fun cdv A outer s H vs Q E hr h => ?_)
    unfold spTerm at h
    obtain ⟨a, sc, o, ops, c, ht, rfl, hn, hc, hst, hg, ho, q⟩ := h
    have r4 : Room 4 (A.deeper (envOfC "_law_term" (defScope s_L_term) s.heap.objs.size (He.ga K "_law_term") cdv)) := hr.mono (Nat.le_add_right 4 n)
    obtain ⟨tB, hB, qB⟩ : ∃ tB, PSs (cxOf CX0 P w K mg base ["_law_state_here", "_law_operations_here", "_law_count", "_law_height", "_law_name", "_law_arity", "_law_term_here", "_law_k"] "_law_term" (defScope s_L_term) (He.ga K "_law_term") cdv A outer s H E).nox ((defBody s_L_term).tail) tB ∧
        ∀ (H1 : Hp) (m : Nat), ht = m + 1 → Fr [a] H H1 → St a sc H1 → tB { nx := fun _ H' => Q .non H', rt := Q } (start ["_law_state_here", "_law_operations_here", "_law_count", "_law_height", "_law_name", "_law_arity", "_law_term_here", "_law_k"] [.ref a, .ref o, .int (c : Int), .int (ht : Int)]) H1 := by
      refine ⟨_, pss_cons (ps_asg (pe_ix ix_list (pv 1) (pe_op op_add pe_int (pe_cal (c_draw T) (r4.mono (by omega)) rfl pass0 (pa_cons (pv 0) (pa_cons (pe_op op_sub (pe_callB call_len rfl T.z_len (by decide +kernel) (pa_cons (pv 1) pa_nil)) pe_int) pa_nil)))) (fun _ _ => rfl)) (pg_tup rfl (pgs_cons (pg_name (i := 4) sc_L_term.nd rfl (Or.inl rfl)) (pgs_cons (pg_name (i := 5) sc_L_term.nd rfl (Or.inl rfl)) pgs_nil))))
        (pss_cons (ps_set (i := 6) sc_L_term.nd rfl (Or.inl rfl) (pe_tup (pa_cons (pv 4) pa_nil)))
        (pss_cons (ps_for PassesOwn.never rfl (pi_range1 rfl T.z_range (pa_cons (pv 5) pa_nil)) (pg_name (i := 7) sc_L_term.nd rfl (Or.inl rfl))
          (pss_one (ps_set (i := 6) sc_L_term.nd rfl (Or.inl rfl) (pe_op op_catA (pv 6) (pe_tup (pa_cons (pe_cal ih hr rfl pass0 (pa_cons (pv 0) (pa_cons (pv 1) (pa_cons (pv 2) (pa_cons (pe_op op_sub (pv 3) pe_int) pa_nil))))) pa_nil))))))
        (pss_one (ps_ret (pv 6))))), fun H1 m em f1 s1 => ?_⟩
      have ho1 := ho.fr hg hst f1
      obtain ⟨os1, b1, b2⟩ := id ho1
      have lo := b2.len
      have g4 := hg.l4
      have g5 := hg.l5
      refine rd_seq (rd_asg (rd_ixL (rd_var rfl (rd_op (rd_c (rd_call2 (rd_var rfl (rd_op (rd_B1 (rd_var rfl ⟨_, _, rfl, .inl ⟨_, sql b1, rfl⟩, _, _, rfl, rfl, spDraw.i (by omega) (by omega) s1 fun j H2 hj f2 s2 => ⟨_, _, rfl, rfl, ?_⟩⟩))))))))))
      have ho2 := ho1.fr hg s1 f2
      obtain ⟨os, e1, e2⟩ := id ho2
      have hj' : 2 + j < ops.length := by omega
      obtain ⟨x, hx, ⟨p, rfl, hp⟩⟩ := e2.nth (List.getElem?_eq_getElem hj')
      have hat : atI os (2 + (j : Int)) = some (.ref p) := by
        have := atI_nat hx
        rwa [show ((2 + j : Nat) : Int) = 2 + (j : Int) by omega] at this
      refine ⟨o, os, _, _, rfl, rfl, sql e1, hat, rd_unl2 rfl hp ?_⟩
      have hk3 : ops[2 + j].2 ≤ 3 := by
        have := List.mem_of_getElem? (hg.ar (2 + j) _ (List.getElem?_eq_getElem hj')).symm
        simp at this
        omega
      have hfm : ops[2 + j].1 ∈ ops.map (·.1) := List.mem_map.mpr ⟨_, List.getElem_mem hj', rfl⟩
      generalize ops[2 + j] = op at hp hk3 hfm
      obtain ⟨f, k⟩ := op
      refine rd_nx (rd_let (rd_tup (rd_cons1 (rd_var rfl ⟨ln_ok, fun t0 nt0 => ?_⟩))))
      have f3 : Fr [a] H (upd H2 t0 (.tup [.str f])) := (f1.trans f2).trans (Fr.new nt0)
      have s3 : St a sc (upd H2 t0 (.tup [.str f])) := s2.upd (s2.ne nt0).1 (s2.ne nt0).2
      have ho3 : IsOps (upd H2 t0 (.tup [.str f])) ops o := ho2.same (Same.new nt0 _)
      refine rd_seq (rd_for (rd_rng1 (rd_cons1 (rd_var rfl ⟨(k : Int), rfl, by omega, by omega, ?_⟩))))
      rw [show ((k : Nat) : Int).toNat = k from Int.toNat_natCast _]
      refine for_range (lo := 0) (n := k) (fun i σ H' => ∃ q us as z, σ = [some (.ref a), some (.ref o), some (.int (c : Int)), some (.int (ht : Int)), some (.str f), some (.int (k : Int)), some (.ref q), z] ∧ H' q = some (.tup (.str f :: us)) ∧ IsTms H' as us ∧ as.length = i ∧ Tm.depths as ≤ ht ∧ Tm.sizes as ≤ i * szT m ∧ (∀ t ∈ as, Drawn ops c t) ∧ Fr [a] H H' ∧ St a sc H' ∧ IsOps H' ops o)
        ⟨t0, [], [], _, rfl, upd_same, rfl, rfl, Nat.zero_le _, Nat.zero_le _, (fun _ z => (by cases z)), f3, s3, ho3⟩ ?_ ?_
      · rintro i σ H' hi ⟨q', us, as, z, rfl, c1, c2, c3, c4, c5, c6, c7, c8, c9⟩
        have el : (ht : Int) - 1 = (m : Int) := by omega
        refine rd_name (rd_set (rd_op (rd_var rfl (rd_tup (rd_cons1 (rd_call4 (rd_var rfl (rd_var rfl (rd_var rfl (rd_op (rd_var rfl ⟨_, _, rfl, rfl, ?_⟩)))))))))))
        show spTerm n [.ref a, .ref o, .int (c : Int), .int ((ht : Int) - 1)] _ _ _
        rw [el]
        refine spTerm.i (by omega) hc c8 hg c9 fun v t H'' tv td tz tD f'' s'' => ?_
        have tt := tups_st c8 f''
        have hul := c2.length
        refine cat_snoc (tt _ _ c1) (by rw [List.length_cons]; omega) fun r H3 s'3 hr3 => ?_
        refine ⟨r, us ++ [v], as ++ [t], _, rfl, hr3, (IsTms.mono (tt.trans (Tups.same s'3)) c2).app (IsTms.one (tv.mono (Tups.same s'3))), by rw [List.length_append, c3]; rfl, ?_, ?_, (fun u hu => ?_), (c7.trans f'').trans (Fr.of s'3), s''.mono s'3, (c9.fr hg c8 f'').same s'3⟩
        · rw [depths_app]
          simp only [Tm.depths]
          omega
        · rw [sizes_app]
          simp only [Tm.sizes]
          rw [Nat.add_mul]
          omega
        · rcases List.mem_append.mp hu with z | z
          · exact c6 u z
          · rw [List.mem_singleton.mp z]; exact tD
      · rintro σ H' ⟨q', us, as, z, rfl, c1, c2, c3, c4, c5, c6, c7, c8, c9⟩
        refine rd_nx (rd_ret (rd_var rfl (q _ (.a f as) H' ⟨q', us, rfl, c1, c2⟩ ?_ ?_ (Drawn.app hfm c6) c7 c8)))
        · show 1 + _ ≤ _
          omega
        · rw [em]
          show 1 + _ ≤ 1 + 3 * szT m
          have : k * szT m ≤ 3 * szT m := Nat.mul_le_mul_right _ hk3
          omega
    refine ⟨_, pss_cons (ps_if (PW.pt (pw_or (pt_cmpR op_eq (pv 3) pe_int (nomark _)) (pw_or1 (pt_cmpR op_eq (pe_cal (c_draw T) (r4.mono (by omega)) rfl pass0 (pa_cons (pv 0) (pa_cons pe_int pa_nil))) pe_int (nomark _)))))
        (pss_one (ps_ret (pe_cal (c_leaf T) r4 rfl pass0 (pa_cons (pv 0) (pa_cons (pv 1) (pa_cons (pv 2) pa_nil)))))) pss_nil) hB, ?_⟩
    have leaf : ∀ (H1 : Hp), Fr [a] H H1 → St a sc H1 → spLeaf [.ref a, .ref o, .int (c : Int)] H1 Q E0 := fun H1 f1 s1 =>
      spLeaf.i hc s1 hg (ho.fr hg hst f1) fun v t H' tv td tz tD f' s' => q v t H' tv (by omega) (by have := szT_pos ht; omega) tD (f1.trans f') s'
    refine rd_when1 (rd_or (rd_test (rd_op (rd_var rfl ⟨rfl, _, rfl, ?_⟩))))
    split
    · exact iteT (rd_ret (rd_call3 (rd_var rfl (rd_var rfl (rd_var rfl (leaf H Fr.refl hst))))))
    · rename_i h0
      have hpos : ht ≠ 0 := fun z => h0 (by rw [z]; rfl)
      refine rd_test (rd_op (rd_call2 (rd_var rfl (rd_c (spDraw.i (by decide) (by decide) hst fun n H1 hn f1 s1 => ⟨rfl, _, rfl, ?_⟩)))))
      split
      · exact rd_ret (rd_call3 (rd_var rfl (rd_var rfl (rd_var rfl (leaf H1 f1 s1)))))
      · exact qB H1 (ht - 1) (by omega) f1 s1
end
end K65
namespace K65
open PySem PySem.Spec PyProof.Rows L2
/-! ### the law's own walks over terms -/
/-- isinstance(t, int) -/
theorem rd_isInt {K : PySem.W.Frag} {σ : L2.St} {H : Hp} {i : Nat} {t : Tm} {x : V} {QB : Bool → Hp → Prop} (hi : σ[i]? = some (some x)) (h : IsTm H t x) (h1 : ∀ n, t = .v n → x = .int n → QB true H) (h2 : ∀ f as p vs, t = .a f as → x = .ref p → H p = some (.tup (.str f :: vs)) → IsTms H as vs → QB false H) :
    tB (tCB (rIsi K) (tCons (tVar i) (tCons (tC (.ty "int")) tNil))) σ H QB := by
  cases t with
  | v n =>
    obtain rfl : x = .int n := h
    exact ⟨_, hi, _, _, _, _, _, rfl, .ty _, .base (.int n), kit_ty (by decide +kernel), _, rfl, h1 n rfl rfl⟩
  | a f as =>
    obtain ⟨p, vs, rfl, hp, hs⟩ := h
    exact ⟨_, hi, _, _, _, _, _, rfl, .ty _, .base (.tup hp), kit_ty (by decide +kernel), _, rfl, h2 f as p vs rfl rfl hp hs⟩
section
variable {P : Program} {w : World} {K : PySem.W.Frag} {mg : Str → Option Value} {base : Heap}
@[irreducible] def spLSub : Sp := fun vs H Q _ => ∃ t x p pos u, vs = [x, .ref p] ∧ IsTm H t x ∧ H p = some (.tup (pos.map pI)) ∧ t.sub pos = some u ∧ ∀ y, IsTm H u y → Q y H
theorem spLSub.i {H : Hp} {t u : Tm} {x : V} {p : Addr} {pos : List Nat} {Q : VK} {E : XK} (h : IsTm H t x) (hp : H p = some (.tup (pos.map pI))) (hu : t.sub pos = some u) (q : ∀ y, IsTm H u y → Q y H) : spLSub [x, .ref p] H Q E := by
  unfold spLSub
  exact ⟨t, x, p, pos, u, rfl, h, hp, hu, q⟩
theorem c_lsub (T : TopF K mg) : Cal P w K mg base CX0 1 "_law_subterm" ["_law_term_here", "_law_position"] spLSub := by
  refine k_L_subterm T (fun vs H Q E h => by unfold spLSub at h; obtain ⟨t, x, p, pos, u, rfl, _⟩ := h; rfl) (fun cdv A outer s H vs Q E hr h => ?_)
  unfold spLSub at h
  obtain ⟨t, x, p, pos, uu, rfl, ht, hp, hu, q⟩ := h
  refine ⟨_, pss_cons (ps_for PassesOwn.never rfl (pi_tup (pv 1)) (pg_name (i := 2) sc_L_subterm.nd rfl (Or.inl rfl))
      (pss_one (ps_set (i := 0) sc_L_subterm.nd rfl (Or.inl rfl) (pe_ix ix_tup (pv 0) (pv 2) (fun _ _ => rfl)))))
    (pss_one (ps_ret (pv 0))), ?_⟩
  refine rd_seq (rd_for (rd_tupv rfl hp ?_))
  refine for_tup (K := K) (a := p) (xs := pos.map pI) (fun i σ H' => ∃ u y z, σ = [some y, some (.ref p), z] ∧ H' = H ∧ IsTm H u y ∧ t.sub (pos.take i) = some u) ⟨t, x, _, rfl, rfl, ht, rfl⟩ (fun i σ H' _ hh => ?_) ?_ ?_
  · obtain ⟨u, y, z, rfl, rfl, _⟩ := hh
    exact sqt hp
  · rintro i v σ H' hi ⟨u, y, z, rfl, rfl, hu', hs⟩
    obtain ⟨k, hk, rfl⟩ : ∃ k, pos[i]? = some k ∧ v = pI k := by
      rw [List.getElem?_map] at hi
      cases e : pos[i]? with
      | none => rw [e] at hi; cases hi
      | some k => rw [e] at hi; exact ⟨k, rfl, (Option.some.inj hi).symm⟩
    have tk' := take_succ' hk
    have step : t.sub (pos.take (i + 1)) = (u.arg k).bind (·.sub []) := by rw [tk', Tm.sub_app, hs]; rfl
    cases ea : u.arg k with
    | none =>
      exfalso
      have h1 : pos = pos.take (i + 1) ++ pos.drop (i + 1) := (List.take_append_drop _ _).symm
      rw [h1, Tm.sub_app, step, ea] at hu
      cases hu
    | some u' =>
      obtain ⟨f, as, p', us, y', rfl, rfl, hp', hs', h1, h2, h3, h4⟩ := arg_at hu' ea
      obtain ⟨k, rfl⟩ : ∃ m, k = m + 1 := ⟨k - 1, by omega⟩
      refine rd_name (rd_set (rd_ixTv rfl rfl hp' (atI_nat (j := k + 1) h3) ⟨u', y', _, rfl, rfl, h4, by rw [step, ea]; rfl⟩))
  · rintro σ H' ⟨u, y, z, rfl, rfl, hu', hs⟩
    rw [List.length_map, List.take_length, hu] at hs
    cases hs
    exact rd_ret (rd_var rfl (q y hu'))
theorem c_lrepl (T : TopF K mg) : ∀ n : Nat, Cal P w K mg base CX0 n "_law_replace" ["_law_term_here", "_law_position", "_law_new"] (spRepl n)
  | 0 => n_L_replace T (fun vs H Q E h => by
    unfold spRepl at h
    obtain ⟨t, x, p, pos, u, y, _, hn, _⟩ := h
    omega)
  | n + 1 => by
    have ih := c_lrepl T n
    refine k_L_replace T (fun vs H Q E h => by unfold spRepl at h; obtain ⟨t, x, p, pos, u, y, rfl, _⟩ := h; rfl) (fun cdv A outer s H vs Q E hr h => ?_)
    unfold spRepl at h
    obtain ⟨t, x, p, pos, u, y, rfl, hn, hz, ht, hp, hu, hs, q⟩ := h
    refine ⟨_, pss_cons (ps_if (pt_cmpR op_eq (pe_callB call_len rfl T.z_len (by decide +kernel) (pa_cons (pv 1) pa_nil)) pe_int (nomark _)) (pss_one (ps_ret (pv 2))) pss_nil)
      (pss_cons (ps_set (i := 3) sc_L_replace.nd rfl (Or.inl rfl) (pe_ix ix_tup (pv 1) pe_int (fun _ _ => rfl)))
      (pss_one (ps_ret (pe_op op_catA (pe_op op_catA (pe_slice sl_tupA (pv 0) po_none (po_some (pv 3))) (pe_tup (pa_cons (pe_cal ih hr rfl pass0 (pa_cons (pe_ix ix_tup (pv 0) (pv 3) (fun _ _ => rfl)) (pa_cons (pe_slice sl_tupA (pv 1) (po_some pe_int) po_none) (pa_cons (pv 2) pa_nil)))) pa_nil))) (pe_slice sl_tupA (pv 0) (po_some (pe_op op_add (pv 3) pe_int)) po_none))))), ?_⟩
    refine rd_when1 (rd_test (rd_op (rd_B1 (rd_var rfl ⟨_, _, rfl, .inr ⟨_, sqt hp, rfl⟩, ⟨rfl, _, rfl, ?_⟩⟩))))
    cases pos with
    | nil => exact iteT (rd_ret (rd_var rfl (q y H (Same.refl H) (by rw [show t.repl [] u = u by cases t <;> rfl]; exact hu))))
    | cons k r =>
      refine iteF (rd_let (rd_ixTc rfl hp at0 ?_))
      obtain ⟨u', ea⟩ : ∃ u', t.arg k = some u' := by
        cases e : t.arg k with
        | none => exact absurd (show t.sub (k :: r) = none by show (t.arg k).bind _ = none; rw [e]; rfl) hs
        | some u' => exact ⟨u', rfl⟩
      have hs' : u'.sub r ≠ none := fun z => hs (by show (t.arg k).bind _ = none; rw [ea]; exact z)
      obtain ⟨f, as, p', us, y', rfl, rfl, hp', his, h1, h2, h3, h4⟩ := arg_at ht ea
      obtain ⟨m, rfl⟩ : ∃ m, k = m + 1 := ⟨k - 1, by omega⟩
      have h2 : as[m]? = some u' := h2
      have h3 : us[m]? = some y' := h3
      have hm : m < us.length := (List.getElem?_eq_some_iff.mp h3).1
      have hlen := his.length
      have hal := args_le as
      have hz' : 1 + Tm.sizes as ≤ 100000 := hz
      have line : ∀ {a b : Nat}, a + b ≤ 200000 → a + b ≤ sizeLine := fun h => by rw [sizeLine_eq]; omega
      have hsz := size_arg h2
      refine rd_ret (rd_op (rd_op (rd_head rfl rfl hp' (show m + 1 < (V.str f :: us).length by simp; exact hm) fun r1 n1 => ?_)))
      have t1 : Same H (upd H r1 (.tup ((V.str f :: us).take (m + 1)))) := Same.new n1 _
      refine rd_tup (rd_cons1 (rd_call3 (rd_ixTv rfl rfl (t1 _ _ hp') (atI_nat (j := m + 1) h3) (rd_tail rfl (t1 _ _ hp) fun a ha => rd_var rfl ?_))))
      have t2 := t1.trans (Same.new ha (.tup (r.map pI)))
      refine spRepl.i (by simpa using hn) (by omega) (h4.mono (Tups.same t2)) upd_same (hu.mono (Tups.same t2)) hs' fun z H1 s1 hz1 => ?_
      have t3 := t2.trans s1
      refine cat_snoc (s1 _ _ (Same.new ha _ _ _ upd_same)) (by rw [List.length_take]; simp; omega) fun r3 H2 s2 hr3 => ?_
      have t4 := t3.trans s2
      refine rd_rest rfl rfl (t4 _ _ hp') (show m + 1 < (V.str f :: us).length by simp; exact hm) fun r4 n4 => ?_
      have t5 : Same H2 (upd H2 r4 (.tup ((V.str f :: us).drop (m + 1 + 1)))) := Same.new n4 _
      have fin : ∀ (b : Addr) (H3 : Hp), Same H2 H3 → H3 b = some (.tup ((V.str f :: us).take (m + 1) ++ [z] ++ (V.str f :: us).drop (m + 1 + 1))) → Q (.ref b) H3 := fun b H3 s3 hb => by
        refine q _ H3 (t4.trans s3) ⟨b, us.take m ++ [z] ++ us.drop (m + 1), rfl, hb, ?_⟩
        show IsTms H3 (as.modify m fun t => t.repl r u) _
        rw [modify_at h2]
        have his2 : IsTms H3 as us := IsTms.mono (Tups.same (t4.trans s3)) his
        exact ((his2.take m).app (IsTms.one (hz1.mono (Tups.same (s2.trans s3))))).app (his2.drop (m + 1))
      refine ⟨r3, r4, _, _, rfl, rfl, sqt (t5 _ _ hr3), sqt upd_same, line (by rw [List.length_append, List.length_take, List.length_drop]; simp; omega), fun e => ?_, fun _ e => ?_, fun _ _ r5 n5 => ?_⟩
      · simp at e
      · refine fin r3 _ t5 ?_
        have z := t5 _ _ hr3
        rw [e] at z ⊢
        rw [List.append_nil]
        exact z
      · exact fin r5 _ (t5.trans (Same.new n5 _)) upd_same
theorem c_lsubst (T : TopF K mg) : ∀ n : Nat, Cal P w K mg base CX0 n "_law_substitute" ["_law_term_here", "_law_substitution"] (spSubst n)
  | 0 => n_L_substitute T (fun vs H Q E h => by
    unfold spSubst at h
    obtain ⟨t, x, s, d, kvs, _, hd, _⟩ := h
    have := t.depth_pos
    omega)
  | n + 1 => by
    have ih := c_lsubst T n
    refine k_L_substitute T (fun vs H Q E h => by unfold spSubst at h; obtain ⟨t, x, s, d, kvs, rfl, _⟩ := h; rfl) (fun cdv A outer s H vs Q E hr h => ?_)
    unfold spSubst at h
    obtain ⟨t, x, b, d, kvs, rfl, hd, hz, ht, hk, hs, q⟩ := h
    refine ⟨_, pss_cons (ps_if (pt_val (pe_callB call_isi rfl T.z_isinstance (by decide +kernel) (pa_cons (pv 0) (pa_cons (pe_bltn (v := .ty "int") (u := .type "int") rfl T.z_int (by decide +kernel) rfl) pa_nil)))) (pss_one (ps_ret (pe_dget2 (hu_of hr) (pv 1) (pv 0) (pv 0) ⟨rfl, rfl, rfl, rfl⟩))) pss_nil)
      (pss_cons (ps_set (i := 2) sc_L_substitute.nd rfl (Or.inl rfl) (pe_tup (pa_cons (pe_ix ix_tup (pv 0) pe_int (fun _ _ => rfl)) pa_nil)))
      (pss_cons (ps_for PassesOwn.never rfl (pi_tup (pe_slice sl_tupA (pv 0) (po_some pe_int) po_none)) (pg_name (i := 3) sc_L_substitute.nd rfl (Or.inl rfl))
        (pss_one (ps_set (i := 2) sc_L_substitute.nd rfl (Or.inl rfl) (pe_op op_catA (pv 2) (pe_tup (pa_cons (pe_cal ih hr rfl pass0 (pa_cons (pv 3) (pa_cons (pv 1) pa_nil))) pa_nil))))))
      (pss_one (ps_ret (pv 2))))), ?_⟩
    refine rd_when1 (rd_isInt rfl ht (fun m e1 e2 => iteT ?_) (fun f as p us e1 e2 hp his => iteF ?_))
    · subst e1
      subst e2
      refine rd_ret (rd_dget2 (rd_var rfl ⟨d, rfl, .inl ⟨kvs, .inl hk⟩, rd_var rfl (rd_var rfl ⟨_, DGet.k (k := Sum.inl m) hk, ?_⟩)⟩))
      rcases hs.get (n := m) with ⟨z1, z2⟩ | ⟨t', x', z1, z2, z3⟩
      · rw [z2]
        refine q _ H (Same.refl H) ?_
        show IsTm H ((b.lookup m).getD (.v m)) _
        rw [z1]
        rfl
      · rw [z2]
        refine q _ H (Same.refl H) ?_
        show IsTm H ((b.lookup m).getD (.v m)) _
        rw [z1]
        exact z3
    · subst e1
      subst e2
      refine rd_let (rd_tup (rd_cons1 (rd_ixTc rfl hp at0 ⟨ln_ok, fun l hl => ?_⟩)))
      have s0 : Same H (upd H l (.tup [.str f])) := Same.new hl _
      refine rd_seq (rd_for (rd_args rfl (s0 _ _ hp) fun a ha => ?_))
      have s00 := s0.trans (Same.new ha (.tup us))
      have hlen := his.length
      have hal2 := args_le as
      have hz' : 1 + Tm.sizes as ≤ 100000 := hz
      refine for_tup (K := K) (a := a) (xs := us) (fun i σ H' => ∃ z l ys, σ = [some (.ref p), some (.ref d), some (.ref l), z] ∧ Same H H' ∧ H' a = some (.tup us) ∧ H' l = some (.tup (.str f :: ys)) ∧ IsTms H' (Tm.substs b (as.take i)) ys)
        ⟨_, l, [], rfl, s00, upd_same, Same.new ha _ _ _ upd_same, rfl⟩ (fun i σ H' _ hh => ?_) ?_ ?_
      · obtain ⟨z, l, ys, rfl, s1, s2, s3, s4⟩ := hh
        exact sqt s2
      · rintro i y σ H' hi ⟨z, l, ys, rfl, s1, s2, s3, s4⟩
        obtain ⟨u, hu, hy⟩ := his.get hi
        have hde := depth_arg hu
        have hsz := size_arg hu
        have hd' : 1 + Tm.depths as ≤ n + 1 := hd
        have hi' : i < as.length := (List.getElem?_eq_some_iff.mp hu).1
        have hyl := s4.length
        rw [substs_len, List.length_take] at hyl
        refine rd_name (rd_set (rd_op (rd_var rfl (rd_tup (rd_cons1 (rd_call2 (rd_var rfl (rd_var rfl (spSubst.i (by omega) (by omega) (hy.mono (Tups.same s1)) (s1 _ _ hk) (hs.mono (Tups.same s1)) fun z' H'' s5 hz'' => ?_)))))))))
        refine cat_snoc (s5 _ _ s3) (by rw [List.length_cons]; omega) fun r H3 s6 hr3 => ?_
        refine ⟨_, r, ys ++ [z'], rfl, (s1.trans s5).trans s6, s6 _ _ (s5 _ _ s2), hr3, ?_⟩
        rw [substs_take hu]
        exact (IsTms.mono (Tups.same (s5.trans s6)) s4).app (IsTms.one (hz''.mono (Tups.same s6)))
      · rintro σ H' ⟨z, l, ys, rfl, s1, s2, s3, s4⟩
        rw [hlen, List.take_length] at s4
        exact rd_nx (rd_ret (rd_var rfl (q _ _ s1 ⟨l, ys, rfl, s3, s4⟩)))
end
end K65
namespace K65
open PySem PySem.Spec PyProof.Rows L2
/-! ### positions, variables, names of an equation -/
theorem cat_cons {K : PySem.W.Frag} {H : Hp} {r : Addr} {ys : List V} {v : V} {Q : VK} (hr : H r = some (.tup ys)) (hl : ys.length ≤ 1000000) (q : ∀ p H2, Same H H2 → H2 p = some (.tup (v :: ys)) → Q (.ref p) H2) {t : Addr} (nt : H t = none) :
    rCatA K (.ref t) (.ref r) (upd H t (.tup [v])) Q := by
  have s1 : Same H (upd H t (.tup [v])) := Same.new nt _
  refine ⟨t, r, [v], ys, rfl, rfl, sqt upd_same, sqt (s1 _ _ hr), by rw [sizeLine_eq]; show 1 + ys.length ≤ _; omega, fun e => (by cases e), fun _ e => ?_, fun _ _ p np => ?_⟩
  · subst e
    exact q t _ s1 upd_same
  · exact q p _ (s1.trans (Same.new np _)) upd_same
mutual
theorem depth_le_size : ∀ t : Tm, t.depth ≤ t.size
  | .v n => Nat.le_refl 1
  | .a f as => by
    have := depths_le_sizes as
    show 1 + Tm.depths as ≤ 1 + Tm.sizes as
    omega
theorem depths_le_sizes : ∀ ts : List Tm, Tm.depths ts ≤ Tm.sizes ts
  | [] => Nat.le_refl 0
  | t :: r => by
    have h1 := depth_le_size t
    have h2 := depths_le_sizes r
    show max t.depth (Tm.depths r) ≤ t.size + Tm.sizes r
    omega
end
def IsPos (H : Hp) (pos : List Nat) (v : V) : Prop := ∃ r, v = .ref r ∧ H r = some (.tup (pos.map pI))
theorem IsPos.mono {H H' : Hp} (s : Tups H H') {pos : List Nat} {v : V} (h : IsPos H pos v) : IsPos H' pos v := by
  obtain ⟨r, e, h1⟩ := h
  exact ⟨r, e, s _ _ h1⟩
theorem A2.poss {H H' : Hp} (s : Tups H H') {l : List (List Nat)} {vs : List V} (h : A2 (IsPos H) l vs) : A2 (IsPos H') l vs := h.imp fun _ _ z => z.mono s
theorem take_sizes_le {as : List Tm} : ∀ {i : Nat}, Tm.sizes (as.take i) ≤ Tm.sizes as := by
  induction as with
  | nil => intro i; simp [Tm.sizes]
  | cons a as ih =>
    intro i
    cases i with
    | zero => simp [Tm.sizes]
    | succ i =>
      have := ih (i := i)
      simp only [List.take_succ_cons, Tm.sizes]
      omega
/-- the variables of t, each once -/
structure LV (t : Tm) (vs : List Int) : Prop where
  nd : vs.Nodup
  mem : ∀ n : Int, n ∈ vs ↔ (.inl n : Key) ∈ t.syms
  len : vs.length ≤ t.size
structure LV2 (l r : Tm) (vs : List Int) : Prop where
  nd : vs.Nodup
  mem : ∀ n : Int, n ∈ vs ↔ (.inl n : Key) ∈ l.syms ∨ (.inl n : Key) ∈ r.syms
  len : vs.length ≤ l.size + r.size
section
variable {P : Program} {w : World} {K : PySem.W.Frag} {mg : Str → Option Value} {base : Heap}
@[irreducible] def spPos (n : Nat) : Sp := fun vs H Q _ => ∃ t x, vs = [x] ∧ IsTm H t x ∧ t.depth ≤ n ∧ t.size ≤ 100000 ∧
  ∀ p (ps : List (List Nat)) ws H', H p = none → Same H H' → H' p = some (.lst ws) → A2 (IsPos H') ps ws → ps ≠ [] → ps.length ≤ t.size → (∀ pos ∈ ps, t.sub pos ≠ none) → Q (.ref p) H'
theorem spPos.i {n : Nat} {H : Hp} {t : Tm} {x : V} {Q : VK} {E : XK} (h1 : IsTm H t x) (h2 : t.depth ≤ n) (h3 : t.size ≤ 100000)
    (q : ∀ p (ps : List (List Nat)) ws H', H p = none → Same H H' → H' p = some (.lst ws) → A2 (IsPos H') ps ws → ps ≠ [] → ps.length ≤ t.size → (∀ pos ∈ ps, t.sub pos ≠ none) → Q (.ref p) H') : spPos n [x] H Q E := by
  unfold spPos
  exact ⟨t, x, rfl, h1, h2, h3, q⟩
theorem c_positions (T : TopF K mg) : ∀ n : Nat, Cal P w K mg base CX0 n "_law_positions" ["_law_term_here"] (spPos n)
  | 0 => n_L_positions T (fun vs H Q E h => by
    unfold spPos at h
    obtain ⟨t, x, _, _, hd, _⟩ := h
    have := t.depth_pos
    omega)
  | n + 1 => by
    have ih := c_positions T n
    refine k_L_positions T (fun vs H Q E h => by unfold spPos at h; obtain ⟨t, x, rfl, _⟩ := h; rfl) (fun cdv A outer s H vs Q E hr h => ?_)
    unfold spPos at h
    obtain ⟨t, x, rfl, ht, hd, hz, q⟩ := h
    refine ⟨_, pss_cons (ps_set (i := 1) sc_L_positions.nd rfl (Or.inl rfl) (pe_lst (pa_cons (pe_tup pa_nil) pa_nil)))
      (pss_cons (ps_if (pt_val (pe_callB call_isi rfl T.z_isinstance (by decide +kernel) (pa_cons (pv 0) (pa_cons (pe_bltn (v := .ty "int") (u := .type "int") rfl T.z_int (by decide +kernel) rfl) pa_nil)))) (pss_one (ps_ret (pv 1))) pss_nil)
      (pss_cons (ps_for PassesOwn.never rfl (pi_range2 rfl T.z_range (pa_cons pe_int (pa_cons (pe_callB call_len rfl T.z_len (by decide +kernel) (pa_cons (pv 0) pa_nil)) pa_nil))) (pg_name (i := 2) sc_L_positions.nd rfl (Or.inl rfl))
        (pss_one (ps_for PassesOwn.never rfl (pi_list (pe_cal ih hr rfl pass0 (pa_cons (pe_ix ix_tup (pv 0) (pv 2) (fun _ _ => rfl)) pa_nil))) (pg_name (i := 3) sc_L_positions.nd rfl (Or.inl rfl))
          (pss_one (ps_expr (pe_bm PySem.F.plainAttrs_list PySem.F.slot_list_append PySem.F.type_list_append mt_append (pv 1) (pa_cons (pe_op op_catA (pe_tup (pa_cons (pv 2) pa_nil)) (pv 3)) pa_nil)))))))
      (pss_one (ps_ret (pv 1))))), ?_⟩
    refine rd_let (rd_lst (rd_cons1 (rd_tup0 fun e ne => ⟨ln_ok, fun l nl => ?_⟩)))
    have s1 : Same H (upd H e (.tup [])) := Same.new ne _
    have s2 : Same (upd H e (.tup [])) (upd (upd H e (.tup [])) l (.lst [.ref e])) := Same.new nl _
    have s12 := s1.trans s2
    have lH : H l = none := s1.free nl
    have pe0 : A2 (IsPos (upd (upd H e (.tup [])) l (.lst [.ref e]))) [[]] [.ref e] := A2.one ⟨e, rfl, s2 _ _ upd_same⟩
    have sub0 : ∀ pos ∈ [([] : List Nat)], t.sub pos ≠ none := fun pos hp => by
      rw [List.mem_singleton.mp hp]
      cases t <;> simp [Tm.sub]
    have zpos : 1 ≤ t.size := by cases t <;> simp [Tm.size] <;> omega
    refine rd_when1 (rd_isInt rfl (ht.mono (Tups.same s12)) (fun m e1 e2 => iteT (rd_ret (rd_var rfl (q l _ _ _ lH s12 upd_same pe0 (by simp) zpos sub0)))) (fun f as p us e1 e2 hp his => iteF ?_))
    subst e1
    subst e2
    have hlen := his.length
    refine rd_seq (rd_for ?_)
    refine ⟨_, rfl, _, _, rfl, .inr ⟨_, sqt hp, rfl⟩, 1, ((us.length + 1 : Nat) : Int), rfl, ?_, ?_⟩
    · have hal := args_le as
      have hz' : 1 + Tm.sizes as ≤ 100000 := hz
      omega
    rw [show (((us.length + 1 : Nat) : Int) - 1).toNat = us.length by omega]
    refine for_range (lo := 1) (n := us.length) (fun i σ H' => ∃ z2 z3 ps ws, σ = [some (.ref p), some (.ref l), z2, z3] ∧ Same H H' ∧ H' p = some (.tup (.str f :: us)) ∧ IsTms H' as us ∧ H' l = some (.lst ws) ∧ A2 (IsPos H') ps ws ∧ ps ≠ [] ∧ ps.length ≤ 1 + Tm.sizes (as.take i) ∧ ∀ pos ∈ ps, (Tm.a f as).sub pos ≠ none)
      ⟨_, _, [[]], _, rfl, s12, hp, his, upd_same, pe0, by simp, by simp, sub0⟩ ?_ ?_
    · rintro i σ H1 hi ⟨z2, z3, ps, ws, rfl, c1, c2, c3, c4, c5, c6, c7, c8⟩
      have hia : i < as.length := by omega
      have hu : as[i]? = some as[i] := List.getElem?_eq_getElem hia
      obtain ⟨y, hy, iy⟩ := c3.nth hu
      have hde := depth_arg hu
      have hsz := size_arg hu
      have hd' : 1 + Tm.depths as ≤ n + 1 := hd
      have hz' : 1 + Tm.sizes as ≤ 100000 := hz
      have hat : atI (V.str f :: us) (1 + (i : Int)) = some y := by
        have := atI_nat (xs := V.str f :: us) (j := i + 1) hy
        rwa [show ((i + 1 : Nat) : Int) = 1 + (i : Int) by omega] at this
      refine rd_name (rd_for (rd_iList (rd_call1 (rd_ixTv rfl rfl c2 hat (spPos.i iy (by omega) (by omega) fun b qs ys H2 nb t1 hb hqs hq0 hql hqv => ⟨b, rfl, ⟨_, sql hb⟩, ?_⟩)))))
      have hbl : b ≠ l := fun z => by rw [z, c4] at nb; cases nb
      have ht1 := take_sizes_le (as := as) (i := i + 1)
      rw [sizes_take hu] at ht1
      have hyl := hqs.len
      refine for_list (K := K) (a := b) (xs := ys) (fun j σ H' => ∃ z3 ps ws, σ = [some (.ref p), some (.ref l), some (.int (1 + (i : Nat))), z3] ∧ Same H H' ∧ H' b = some (.lst ys) ∧ A2 (IsPos H') qs ys ∧ H' p = some (.tup (.str f :: us)) ∧ IsTms H' as us ∧ H' l = some (.lst ws) ∧ A2 (IsPos H') ps ws ∧ ps ≠ [] ∧ ps.length ≤ 1 + Tm.sizes (as.take i) + j ∧ ∀ pos ∈ ps, (Tm.a f as).sub pos ≠ none)
        ⟨_, ps, ws, rfl, c1.trans t1, hb, hqs, t1 _ _ c2, IsTms.mono (Tups.same t1) c3, t1 _ _ c4, c5.poss (Tups.same t1), c6, c7, c8⟩ (fun j σ H' _ hh => ?_) ?_ ?_
      · obtain ⟨z3, ps, ws, rfl, _, d2, _⟩ := hh
        exact sql d2
      · rintro j v σ H3 hj ⟨z3, ps, ws, rfl, d1, d2, d3, d4, d5, d6, d7, d8, d9, d10⟩
        obtain ⟨pos, hpos, ⟨r, rfl, hr'⟩⟩ := d3.get hj
        have hj' := (List.getElem?_eq_some_iff.mp hpos).1
        have hlp := hqv pos (List.mem_of_getElem? hpos)
        have hpl : pos.length ≤ 100000 := by
          obtain ⟨w', hw'⟩ := Option.ne_none_iff_exists'.mp hlp
          have h1 := sub_depth hw'
          have h2 : as[i].depth ≤ as[i].size := depth_le_size _
          omega
        refine rd_name (rd_app rfl d6 (rd_op (rd_tup (rd_cons1 (rd_var rfl ⟨ln_ok, fun T nT => rd_var rfl (cat_cons hr' (by rw [List.length_map]; omega) (fun r2 H4 s4 hr2 => ?_) nT)⟩)))))
        have hl4 := s4 _ _ d6
        have tt : Tups H3 (upd H4 l (.lst (ws ++ [.ref r2]))) := (Tups.same s4).trans (tups_lst hl4)
        have hwl := d7.len
        refine rd_app' hl4 (by rw [hwl]; omega) ⟨_, ps ++ [(i + 1) :: pos], ws ++ [.ref r2], rfl, Same.mut (d1.trans s4) lH, by rw [upd_ne hbl]; exact s4 _ _ d2, d3.poss tt, tt _ _ d4, IsTms.mono tt d5, upd_same, (d7.poss tt).app (A2.one ⟨r2, rfl, ?_⟩), by simp, by rw [List.length_append]; simp; omega, fun pos' hp' => ?_⟩
        · refine tups_lst hl4 _ _ ?_
          rw [hr2, List.map_cons]
          show some (HO.tup (V.int (1 + (i : Int)) :: _)) = some (HO.tup (V.int ((i + 1 : Nat) : Int) :: _))
          rw [show ((i + 1 : Nat) : Int) = 1 + (i : Int) by omega]
        · rcases List.mem_append.mp hp' with z | z
          · exact d10 pos' z
          · rw [List.mem_singleton.mp z]
            show ((Tm.a f as).arg (i + 1)).bind _ ≠ none
            rw [show (Tm.a f as).arg (i + 1) = some as[i] from hu]
            exact hlp
      · rintro σ H3 ⟨z3, ps, ws, rfl, d1, d2, d3, d4, d5, d6, d7, d8, d9, d10⟩
        refine rd_nx ⟨_, _, ps, ws, rfl, d1, d4, d5, d6, d7, d8, ?_, d10⟩
        rw [sizes_take hu]
        omega
    · rintro σ H1 ⟨z2, z3, ps, ws, rfl, c1, c2, c3, c4, c5, c6, c7, c8⟩
      rw [hlen, List.take_length] at c7
      exact rd_nx (rd_ret (rd_var rfl (q l ps ws H1 lH c1 c4 c5 c6 c7 c8)))
@[irreducible] def spLVars (n : Nat) : Sp := fun vs H Q _ => ∃ t x, vs = [x] ∧ IsTm H t x ∧ t.depth ≤ n ∧ t.size ≤ 10000 ∧ ∀ p ns H', H p = none → Same H H' → H' p = some (.lst (ns.map V.int)) → LV t ns → Q (.ref p) H'
theorem spLVars.i {n : Nat} {H : Hp} {t : Tm} {x : V} {Q : VK} {E : XK} (h1 : IsTm H t x) (h2 : t.depth ≤ n) (h3 : t.size ≤ 10000) (q : ∀ p ns H', H p = none → Same H H' → H' p = some (.lst (ns.map V.int)) → LV t ns → Q (.ref p) H') : spLVars n [x] H Q E := by
  unfold spLVars
  exact ⟨t, x, rfl, h1, h2, h3, q⟩
theorem c_lvars (T : TopF K mg) : ∀ n : Nat, Cal P w K mg base CX0 n "_law_variables" ["_law_term_here"] (spLVars n)
  | 0 => n_L_variables T (fun vs H Q E h => by
    unfold spLVars at h
    obtain ⟨t, x, _, _, hd, _⟩ := h
    have := t.depth_pos
    omega)
  | n + 1 => by
    have ih := c_lvars T n
    refine k_L_variables T (fun vs H Q E h => by unfold spLVars at h; obtain ⟨t, x, rfl, _⟩ := h; rfl) (fun cdv A outer s H vs Q E hr h => ?_)
    unfold spLVars at h
    obtain ⟨t, x, rfl, ht, hd, hz, q⟩ := h
    refine ⟨_, pss_cons (ps_if (pt_val (pe_callB call_isi rfl T.z_isinstance (by decide +kernel) (pa_cons (pv 0) (pa_cons (pe_bltn (v := .ty "int") (u := .type "int") rfl T.z_int (by decide +kernel) rfl) pa_nil)))) (pss_one (ps_ret (pe_lst (pa_cons (pv 0) pa_nil)))) pss_nil)
      (pss_cons (ps_set (i := 1) sc_L_variables.nd rfl (Or.inl rfl) (pe_lst pa_nil))
      (pss_cons (ps_for PassesOwn.never rfl (pi_tup (pe_slice sl_tupA (pv 0) (po_some pe_int) po_none)) (pg_name (i := 2) sc_L_variables.nd rfl (Or.inl rfl))
        (pss_one (ps_for PassesOwn.never rfl (pi_list (pe_cal ih hr rfl pass0 (pa_cons (pv 2) pa_nil))) (pg_name (i := 3) sc_L_variables.nd rfl (Or.inl rfl))
          (pss_one (ps_if (pt_cmpR op_niI (pv 3) (pv 1) (by rfl))
            (pss_one (ps_expr (pe_bm PySem.F.plainAttrs_list PySem.F.slot_list_append PySem.F.type_list_append mt_append (pv 1) (pa_cons (pv 3) pa_nil)))) pss_nil)))))
      (pss_one (ps_ret (pv 1))))), ?_⟩
    refine rd_when1 (rd_isInt rfl ht (fun m e1 e2 => iteT ?_) (fun f as p us e1 e2 hp his => iteF ?_))
    · subst e1
      subst e2
      refine rd_ret (rd_lst (rd_cons1 (rd_var rfl ⟨ln_ok, fun l nl => q l [m] _ nl (Same.new nl _) upd_same ⟨by simp, fun n => ?_, Nat.le_refl _⟩⟩)))
      simp [Tm.syms]
    · subst e1
      subst e2
      refine rd_let (rd_lst0 fun l nl => ?_)
      have s0 : Same H (upd H l (.lst [])) := Same.new nl _
      refine rd_seq (rd_for (rd_args rfl (s0 _ _ hp) fun a ha => ?_))
      have hal : a ≠ l := fun z => by rw [z, upd_same] at ha; cases ha
      have aH : H a = none := s0.free ha
      have hlen := his.length
      have hz' : 1 + Tm.sizes as ≤ 10000 := hz
      have hd' : 1 + Tm.depths as ≤ n + 1 := hd
      refine for_tup (K := K) (a := a) (xs := us) (fun i σ H' => ∃ z2 z3 ns, σ = [some (.ref p), some (.ref l), z2, z3] ∧ Same H H' ∧ H' a = some (.tup us) ∧ IsTms H' as us ∧ H' l = some (.lst (ns.map V.int)) ∧ ns.Nodup ∧ (∀ n : Int, n ∈ ns ↔ (.inl n : Key) ∈ Tm.symss (as.take i)) ∧ ns.length ≤ Tm.sizes (as.take i))
        ⟨_, _, [], rfl, Same.mut s0 aH, upd_same, IsTms.mono (Tups.same (Same.mut s0 aH)) his, by rw [upd_ne (Ne.symm hal), upd_same]; rfl, List.nodup_nil, fun n => by simp [Tm.symss], Nat.zero_le _⟩ (fun i σ H' _ hh => ?_) ?_ ?_
      · obtain ⟨z2, z3, ns, rfl, _, c2, _⟩ := hh
        exact sqt c2
      · rintro i y σ H1 hi ⟨z2, z3, ns, rfl, c1, c2, c3, c4, c5, c6, c7⟩
        obtain ⟨u, hu, hy⟩ := c3.get hi
        have hde := depth_arg hu
        have hsz := size_arg hu
        refine rd_name (rd_for (rd_iList (rd_call1 (rd_var rfl (spLVars.i hy (by omega) (by omega) fun b ms H2 nb t1 hb lv => ⟨b, rfl, ⟨_, sql hb⟩, ?_⟩)))))
        have hbl : b ≠ l := fun z => by rw [z, c4] at nb; cases nb
        have hll := lv.len
        have hts := take_sizes_le (as := as) (i := i)
        refine for_addall (i := 1) (j := 3) (by decide) rfl ⟨_, rfl⟩ hbl hb (t1 _ _ c4) (by omega) fun z H3 k1 k2 => ?_
        have k12 : ∀ b' o, b' ≠ l → H1 b' = some o → H3 b' = some o := fun b' o hb' ho => k1 b' o hb' (t1 _ _ ho)
        have tt : Tups H1 H3 := fun b' xs hx => k12 b' _ (fun z => by rw [z, c4] at hx; cases hx) hx
        refine rd_nx ⟨_, _, addAll ns ms, rfl, fun b' o ho => k12 b' o (ne_of_none ho nl) (c1 _ _ ho), k12 _ _ hal c2, IsTms.mono tt c3, k2, addAll_nd c5, fun n => ?_, ?_⟩
        · have e : Tm.symss (as.take (i + 1)) = Tm.symss (as.take i) ++ u.syms := symss_take hu
          rw [addAll_mem, c6, lv.mem, e, List.mem_append]
        · rw [sizes_take hu]
          have := addAll_len (acc := ns) (bs := ms)
          omega
      · rintro σ H1 ⟨z2, z3, ns, rfl, c1, c2, c3, c4, c5, c6, c7⟩
        rw [hlen, List.take_length] at c6 c7
        refine rd_nx (rd_ret (rd_var rfl (q l ns H1 nl c1 c4 ⟨c5, fun n => ?_, ?_⟩)))
        · rw [c6]
          show _ ↔ (.inl n : Key) ∈ (.inr f : Key) :: Tm.symss as
          rw [List.mem_cons]
          exact ⟨.inr, fun z => z.resolve_left fun e => by cases e⟩
        · show _ ≤ 1 + Tm.sizes as
          omega
@[irreducible] def spEqN (n : Nat) : Sp := fun vs H Q _ => ∃ l r x y, vs = [x, y] ∧ IsTm H l x ∧ IsTm H r y ∧ l.depth ≤ n ∧ l.size ≤ 10000 ∧ r.depth ≤ n ∧ r.size ≤ 10000 ∧ ∀ p ns H', H p = none → Same H H' → H' p = some (.lst (ns.map V.int)) → LV2 l r ns → Q (.ref p) H'
theorem spEqN.i {n : Nat} {H : Hp} {l r : Tm} {x y : V} {Q : VK} {E : XK} (hl : IsTm H l x) (hr : IsTm H r y) (h1 : l.depth ≤ n) (h2 : l.size ≤ 10000) (h3 : r.depth ≤ n) (h4 : r.size ≤ 10000) (q : ∀ p ns H', H p = none → Same H H' → H' p = some (.lst (ns.map V.int)) → LV2 l r ns → Q (.ref p) H') : spEqN n [x, y] H Q E := by
  unfold spEqN
  exact ⟨l, r, x, y, rfl, hl, hr, h1, h2, h3, h4, q⟩
theorem c_eqN (T : TopF K mg) (n : Nat) : Cal P w K mg base CX0 (n + 1) "_law_equation_names" ["_law_left", "_law_right"] (spEqN n) := by
  refine k_L_equation_names T (fun vs H Q E h => by unfold spEqN at h; obtain ⟨_, _, _, _, rfl, _⟩ := h; rfl) (fun cdv A outer s H vs Q E hr h => ?_)
  unfold spEqN at h
  obtain ⟨l, r, x, y, rfl, hl, hrt, h1, h2, h3, h4, q⟩ := h
  refine ⟨_, pss_cons (ps_set (i := 2) sc_L_equation_names.nd rfl (Or.inl rfl) (pe_cal (c_lvars T n) hr rfl pass0 (pa_cons (pv 0) pa_nil)))
    (pss_cons (ps_for PassesOwn.never rfl (pi_list (pe_cal (c_lvars T n) hr rfl pass0 (pa_cons (pv 1) pa_nil))) (pg_name (i := 3) sc_L_equation_names.nd rfl (Or.inl rfl))
      (pss_one (ps_if (pt_cmpR op_niI (pv 3) (pv 2) (by rfl))
        (pss_one (ps_expr (pe_bm PySem.F.plainAttrs_list PySem.F.slot_list_append PySem.F.type_list_append mt_append (pv 2) (pa_cons (pv 3) pa_nil)))) pss_nil)))
    (pss_one (ps_ret (pv 2)))), ?_⟩
  refine rd_let (rd_call1 (rd_var rfl (spLVars.i hl h1 h2 fun p ns H1 np s1 hp lv => ?_)))
  refine rd_seq (rd_for (rd_iList (rd_call1 (rd_var rfl (spLVars.i (hrt.mono (Tups.same s1)) h3 h4 fun a ms H2 na s2 ha lw => ⟨a, rfl, ⟨_, sql ha⟩, ?_⟩)))))
  have hal : a ≠ p := fun z => by rw [z, hp] at na; cases na
  have v1 := lv.len
  have v2 := lw.len
  refine for_addall (i := 2) (j := 3) (by decide) rfl ⟨_, rfl⟩ hal ha (s2 _ _ hp) (by omega) fun z H3 s3 h3' => ?_
  refine rd_nx (rd_ret (rd_var rfl (q p _ H3 np (fun b o hb => ?_) h3' ⟨addAll_nd lv.nd, fun n => by rw [addAll_mem, lv.mem, lw.mem], ?_⟩)))
  · exact s3 _ _ (ne_of_none hb np) (s2 _ _ (s1 _ _ hb))
  · have := addAll_len (acc := ns) (bs := ms)
    omega
end
end K65
namespace K65
open PySem PySem.Spec PyProof.Rows L2
/-! ### rows, values -/
def rows (sz : Nat) : Nat → List (List Nat)
  | 0 => [[]]
  | n + 1 => (rows sz n).flatMap fun r => (List.range sz).map fun e => r ++ [e]
theorem mem_rows {sz : Nat} : ∀ {n : Nat} {r : List Nat}, r ∈ rows sz n ↔ r.length = n ∧ ∀ e ∈ r, e < sz
  | 0, r => by
    show r ∈ [[]] ↔ _
    rw [List.mem_singleton]
    constructor
    · rintro rfl; exact ⟨rfl, fun _ z => by cases z⟩
    · rintro ⟨h, _⟩; exact List.eq_nil_of_length_eq_zero h
  | n + 1, r => by
    show r ∈ (rows sz n).flatMap _ ↔ _
    rw [List.mem_flatMap]
    constructor
    · rintro ⟨q, hq, hr⟩
      obtain ⟨e, he, rfl⟩ := List.mem_map.mp hr
      obtain ⟨h1, h2⟩ := mem_rows.mp hq
      refine ⟨by rw [List.length_append, h1]; rfl, fun x hx => ?_⟩
      rcases List.mem_append.mp hx with z | z
      · exact h2 x z
      · rw [List.mem_singleton.mp z]; exact List.mem_range.mp he
    · rintro ⟨h1, h2⟩
      have hne : r ≠ [] := fun z => by rw [z] at h1; cases h1
      refine ⟨r.dropLast, mem_rows.mpr ⟨by rw [List.length_dropLast, h1]; rfl, fun x hx => h2 x ((List.dropLast_sublist r).subset hx)⟩, ?_⟩
      exact List.mem_map.mpr ⟨r.getLast hne, List.mem_range.mpr (h2 _ (List.getLast_mem hne)), List.dropLast_concat_getLast hne⟩
theorem flat_len {α β : Type} {f : α → List β} {c : Nat} : ∀ {l : List α}, (∀ x ∈ l, (f x).length ≤ c) → (l.flatMap f).length ≤ l.length * c
  | [], _ => by simp
  | x :: l, h => by
    rw [List.flatMap_cons, List.length_append, List.length_cons, Nat.add_mul]
    have h1 := h x List.mem_cons_self
    have h2 := flat_len (f := f) (c := c) (l := l) fun y hy => h y (List.mem_cons_of_mem _ hy)
    omega
theorem rows_len {sz : Nat} (hs : sz ≤ 3) : ∀ n, (rows sz n).length ≤ 3 ^ n
  | 0 => Nat.le_refl _
  | n + 1 => by
    have h1 := rows_len hs n
    have h2 := flat_len (f := fun r => (List.range sz).map fun e => r ++ [e]) (c := 3) (l := rows sz n) fun x _ => by rw [List.length_map, List.length_range]; exact hs
    show ((rows sz n).flatMap _).length ≤ _
    rw [Nat.pow_succ]
    omega
theorem rows_729 {sz n : Nat} (hs : sz ≤ 3) (hn : n ≤ 6) : (rows sz n).length ≤ 729 :=
  Nat.le_trans (rows_len hs n) (Nat.le_trans (Nat.pow_le_pow_right (by decide) hn) (by decide))
section
variable {P : Program} {w : World} {K : PySem.W.Frag} {mg : Str → Option Value} {base : Heap}
@[irreducible] def spTup (n : Nat) : Sp := fun vs H Q _ => ∃ k sz : Nat, vs = [.int (k : Int), .int (sz : Int)] ∧ k < n ∧ k ≤ 6 ∧ sz ≤ 3 ∧ ∀ p ws H', H p = none → Same H H' → H' p = some (.lst ws) → A2 (IsPos H') (rows sz k) ws → Q (.ref p) H'
theorem spTup.i {n : Nat} {H : Hp} {k sz : Nat} {Q : VK} {E : XK} (h1 : k < n) (h2 : k ≤ 6) (h3 : sz ≤ 3) (q : ∀ p ws H', H p = none → Same H H' → H' p = some (.lst ws) → A2 (IsPos H') (rows sz k) ws → Q (.ref p) H') : spTup n [.int (k : Int), .int (sz : Int)] H Q E := by
  unfold spTup
  exact ⟨k, sz, rfl, h1, h2, h3, q⟩
theorem c_tuples (T : TopF K mg) : ∀ n : Nat, Cal P w K mg base CX0 n "_law_tuples" ["_law_arity", "_law_size"] (spTup n)
  | 0 => n_L_tuples T (fun vs H Q E h => by
    unfold spTup at h
    obtain ⟨k, sz, _, h, _⟩ := h
    omega)
  | n + 1 => by
    have ih := c_tuples T n
    refine k_L_tuples T (fun vs H Q E h => by unfold spTup at h; obtain ⟨_, _, rfl, _⟩ := h; rfl) (fun cdv A outer s H vs Q E hr h => ?_)
    unfold spTup at h
    obtain ⟨k, sz, rfl, h1, h2, h3, q⟩ := h
    refine ⟨_, pss_cons (ps_if (pt_cmpR op_eq (pv 0) pe_int (nomark _)) (pss_one (ps_ret (pe_lst (pa_cons (pe_tup pa_nil) pa_nil)))) pss_nil)
      (pss_cons (ps_set (i := 2) sc_L_tuples.nd rfl (Or.inl rfl) (pe_lst pa_nil))
      (pss_cons (ps_for PassesOwn.never rfl (pi_list (pe_cal ih hr rfl pass0 (pa_cons (pe_op op_sub (pv 0) pe_int) (pa_cons (pv 1) pa_nil)))) (pg_name (i := 3) sc_L_tuples.nd rfl (Or.inl rfl))
        (pss_one (ps_for PassesOwn.never rfl (pi_range1 rfl T.z_range (pa_cons (pv 1) pa_nil)) (pg_name (i := 4) sc_L_tuples.nd rfl (Or.inl rfl))
          (pss_one (ps_expr (pe_bm PySem.F.plainAttrs_list PySem.F.slot_list_append PySem.F.type_list_append mt_append (pv 2) (pa_cons (pe_op op_catA (pv 3) (pe_tup (pa_cons (pv 4) pa_nil))) pa_nil)))))))
      (pss_one (ps_ret (pv 2))))), ?_⟩
    refine rd_when1 (rd_test (rd_op (rd_var rfl ⟨rfl, _, rfl, ?_⟩)))
    cases k with
    | zero =>
      refine iteT (rd_ret (rd_lst (rd_cons1 (rd_tup0 fun e ne => ⟨ln_ok, fun l nl => ?_⟩))))
      have s1 : Same H (upd H e (.tup [])) := Same.new ne _
      have s2 : Same (upd H e (.tup [])) (upd (upd H e (.tup [])) l (.lst [.ref e])) := Same.new nl _
      exact q l [.ref e] _ (s1.free nl) (s1.trans s2) upd_same (A2.one ⟨e, rfl, s2 _ _ upd_same⟩)
    | succ m =>
      rw [decide_eq_false (show ¬ V.int ((m + 1 : Nat) : Int) = .int 0 from fun z => by have z := V.int.inj z; omega)]
      refine iteF (rd_let (rd_lst0 fun l nl => ?_))
      have s0 : Same H (upd H l (.lst [])) := Same.new nl _
      refine rd_seq (rd_for (rd_iList (rd_call2 (rd_op (rd_var rfl ⟨((m + 1 : Nat) : Int), (1 : Int), rfl, rfl, ?_⟩)))))
      refine rd_var rfl ?_
      show spTup n [.int (((m + 1 : Nat) : Int) - 1), .int (sz : Int)] _ _ _
      rw [show ((m + 1 : Nat) : Int) - 1 = (m : Int) by omega]
      refine spTup.i (by omega) (by omega) h3 fun b ys H1 nb s1 hb hys => ⟨b, rfl, ⟨_, sql hb⟩, ?_⟩
      have hbl : b ≠ l := fun z => by rw [z, upd_same] at nb; cases nb
      have bH : H b = none := s0.free nb
      have hyl := hys.len
      have r1 := rows_729 (n := m + 1) h3 h2
      have hrl : (rows sz (m + 1)).length = (rows sz m).length * sz := by
        show ((rows sz m).flatMap _).length = _
        rw [List.length_flatMap]
        simp [List.sum_replicate_nat, List.map_const']
      refine for_list (K := K) (a := b) (xs := ys) (fun i σ H' => ∃ z3 z4 ws, σ = [some (.int ((m + 1 : Nat) : Int)), some (.int (sz : Int)), some (.ref l), z3, z4] ∧ Same H H' ∧ H' b = some (.lst ys) ∧ A2 (IsPos H') (rows sz m) ys ∧ H' l = some (.lst ws) ∧ A2 (IsPos H') (((rows sz m).take i).flatMap fun r => (List.range sz).map fun e => r ++ [e]) ws)
        ⟨_, _, [], rfl, s0.trans s1, hb, hys, s1 _ _ upd_same, A2.nil⟩ (fun i σ H' _ hh => ?_) ?_ ?_
      · obtain ⟨z3, z4, ws, rfl, _, c2, _⟩ := hh
        exact sql c2
      · rintro i v σ H2 hi ⟨z3, z4, ws, rfl, c1, c2, c3, c4, c5⟩
        obtain ⟨row, hrow, ⟨r, rfl, hr'⟩⟩ := c3.get hi
        have hrl' := (mem_rows.mp (List.mem_of_getElem? hrow)).1
        have tk := take_succ' hrow
        refine rd_name (rd_for (rd_rng1 (rd_cons1 (rd_var rfl ⟨(sz : Int), rfl, by omega, by omega, ?_⟩))))
        rw [show ((sz : Nat) : Int).toNat = sz from Int.toNat_natCast _]
        have hil := (List.getElem?_eq_some_iff.mp hrow).1
        have hpre : (((rows sz m).take i).flatMap fun r => (List.range sz).map fun e => r ++ [e]).length ≤ 729 * 3 := by
          have := flat_len (f := fun r : List Nat => (List.range sz).map fun e => r ++ [e]) (c := 3) (l := (rows sz m).take i) fun x _ => by rw [List.length_map, List.length_range]; exact h3
          have h5 := rows_729 (n := m) h3 (by omega)
          rw [List.length_take] at this
          omega
        refine for_range (lo := 0) (n := sz) (fun j σ H' => ∃ z4 ws, σ = [some (.int ((m + 1 : Nat) : Int)), some (.int (sz : Int)), some (.ref l), some (.ref r), z4] ∧ Same H H' ∧ H' b = some (.lst ys) ∧ A2 (IsPos H') (rows sz m) ys ∧ H' r = some (.tup (row.map pI)) ∧ H' l = some (.lst ws) ∧ A2 (IsPos H') ((((rows sz m).take i).flatMap fun r => (List.range sz).map fun e => r ++ [e]) ++ (List.range j).map fun e => row ++ [e]) ws)
          ⟨_, ws, rfl, c1, c2, c3, hr', c4, by simpa using c5⟩ ?_ ?_
        · rintro j σ H3 hj ⟨z4, ws, rfl, d1, d2, d3, d4, d5, d6⟩
          rw [Int.zero_add]
          refine rd_name (rd_app rfl d5 (rd_op (rd_var rfl (rd_tup (rd_cons1 (rd_var rfl (cat_snoc d4 (by rw [List.length_map]; omega) fun p H4 s4 hp => ?_)))))))
          have hl4 := s4 _ _ d5
          have tt : Tups H3 (upd H4 l (.lst (ws ++ [.ref p]))) := (Tups.same s4).trans (tups_lst hl4)
          have hwl := d6.len
          rw [List.length_append, List.length_map, List.length_range] at hwl
          refine rd_app' hl4 (by omega) ⟨_, ws ++ [.ref p], rfl, Same.mut (d1.trans s4) nl, by rw [upd_ne hbl]; exact s4 _ _ d2, d3.poss tt, tt _ _ d4, upd_same, ?_⟩
          rw [List.range_succ, List.map_append, ← List.append_assoc]
          refine (d6.poss tt).app (A2.one ⟨p, rfl, tups_lst hl4 _ _ ?_⟩)
          rw [hp, List.map_append]
          rfl
        · rintro σ H3 ⟨z4, ws, rfl, d1, d2, d3, d4, d5, d6⟩
          refine rd_nx ⟨_, _, ws, rfl, d1, d2, d3, d5, ?_⟩
          rw [tk, List.flatMap_append]
          simpa using d6
      · rintro σ H2 ⟨z3, z4, ws, rfl, c1, c2, c3, c4, c5⟩
        rw [hyl, List.take_length] at c5
        exact rd_nx (rd_ret (rd_var rfl (q l ws H2 nl c1 c4 c5)))
theorem c_lvalue (T : TopF K mg) : ∀ n : Nat, Cal P w K mg base CX0 n "_law_value" ["_law_model_here", "_law_term_here", "_law_assignment"] (spVal n)
  | 0 => n_L_value T (fun vs H Q E h => by
    unfold spVal at h
    obtain ⟨M, m, t, x, d, ρ, _, _, _, hd, _⟩ := h
    have := t.depth_pos
    omega)
  | n + 1 => by
    have ih := c_lvalue T n
    refine k_L_value T (fun vs H Q E h => by unfold spVal at h; obtain ⟨_, _, _, _, _, _, rfl, _⟩ := h; rfl) (fun cdv A outer s H vs Q E hr h => ?_)
    unfold spVal at h
    obtain ⟨M, m, t, x, d, ρ, rfl, hm, ht, hd, hz, hf, hk, hv, q⟩ := h
    refine ⟨_, pss_cons (ps_if (pt_val (pe_callB call_isi rfl T.z_isinstance (by decide +kernel) (pa_cons (pv 1) (pa_cons (pe_bltn (v := .ty "int") (u := .type "int") rfl T.z_int (by decide +kernel) rfl) pa_nil)))) (pss_one (ps_ret (pe_dget (hu_of hr) (pv 2) (pv 1) (fun _ _ => rfl)))) pss_nil)
      (pss_cons (ps_set (i := 3) sc_L_value.nd rfl (Or.inl rfl) (pe_tup pa_nil))
      (pss_cons (ps_for PassesOwn.never rfl (pi_tup (pe_slice sl_tupA (pv 1) (po_some pe_int) po_none)) (pg_name (i := 4) sc_L_value.nd rfl (Or.inl rfl))
        (pss_one (ps_set (i := 3) sc_L_value.nd rfl (Or.inl rfl) (pe_op op_catA (pv 3) (pe_tup (pa_cons (pe_cal ih hr rfl pass0 (pa_cons (pv 0) (pa_cons (pv 4) (pa_cons (pv 2) pa_nil)))) pa_nil))))))
      (pss_one (ps_ret (pe_dget2 (hu_of hr) (pe_dget (hu_of hr) (pe_ix ix_tup (pv 0) pe_int (fun _ _ => rfl)) (pe_ix ix_tup (pv 1) pe_int (fun _ _ => rfl)) (fun _ _ => rfl)) (pv 3) pe_int ⟨rfl, rfl, rfl, rfl⟩))))), ?_⟩
    refine rd_when1 (rd_isInt rfl ht (fun k e1 e2 => iteT ?_) (fun f as p us e1 e2 hp his => iteF ?_))
    · subst e1
      subst e2
      have hkm := hv k (by simp [Tm.syms])
      refine rd_ret (rd_dget (rd_var rfl (rd_var rfl ⟨d, .int (look ρ k), rfl, ?_, q H (Same.refl H)⟩)))
      have g := DGet.k (k := Sum.inl k) hk
      rw [valV_kvA, lookup_has hkm] at g
      exact g
    · subst e1
      subst e2
      refine rd_let (rd_tup0 fun l hl => ?_)
      have s0 : Same H (upd H l (.tup [])) := Same.new hl _
      refine rd_seq (rd_for (rd_args rfl (s0 _ _ hp) fun a ha => ?_))
      have s00 := s0.trans (Same.new ha (.tup us))
      have hlen := his.length
      have hal2 := args_le as
      have hz' : 1 + Tm.sizes as ≤ 100000 := hz
      refine for_tup (K := K) (a := a) (xs := us) (fun i σ H' => ∃ z l, σ = [some m, some (.ref p), some (.ref d), some (.ref l), z] ∧ Same H H' ∧ H' a = some (.tup us) ∧ H' l = some (.tup ((Tm.vals M.I (look ρ) (as.take i)).map V.int)))
        ⟨_, l, rfl, s00, upd_same, Same.new ha _ _ _ upd_same⟩ (fun i σ H' _ hh => ?_) ?_ ?_
      · obtain ⟨z, l, rfl, s1, s2, s3⟩ := hh
        exact sqt s2
      · rintro i y σ H' hi ⟨z, l, rfl, s1, s2, s3⟩
        obtain ⟨u, hu, hy⟩ := his.get hi
        have hde := depth_arg hu
        have hsz := size_arg hu
        have hd' : 1 + Tm.depths as ≤ n + 1 := hd
        have hi' : i < as.length := (List.getElem?_eq_some_iff.mp hu).1
        refine rd_name (rd_set (rd_op (rd_var rfl (rd_tup (rd_cons1 (rd_call3 (rd_var rfl (rd_var rfl (rd_var rfl (spVal.i (hm.mono s1) (hy.mono (Tups.same s1)) (by omega) (by omega) (fun g hg => hf g (syms_args hu hg)) (s1 _ _ hk) (fun k hk => hv k (syms_args hu hk)) fun H'' s5 => ?_))))))))))
        refine cat_snoc (s5 _ _ s3) (by rw [List.length_map, vals_map, List.length_map, List.length_take]; omega) fun r H3 s6 hr3 => ?_
        refine ⟨_, r, rfl, (s1.trans s5).trans s6, s6 _ _ (s5 _ _ s2), ?_⟩
        rw [hr3, take_succ' hu, vals_map, vals_map, List.map_append, List.map_append]
        rfl
      · rintro σ H' ⟨z, l, rfl, s1, s2, s3⟩
        rw [hlen, List.take_length] at s3
        obtain ⟨pm, dm, kvs, rfl, m1, m2, m3⟩ := hm.mono s1
        obtain ⟨xt, e1, td, tvs, rfl, m4, m5⟩ := m3 f (hf f (by simp [Tm.syms]))
        have g1 := DGet.k (k := (.inr f : Key)) m2
        rw [e1] at g1
        refine rd_nx (rd_ret (rd_dget2 (rd_dget (rd_ixTc rfl m1 at1 (rd_ixTc rfl (s1 _ _ hp) at0 ⟨dm, _, rfl, g1, td, rfl, .inr ⟨tvs, .inl m4⟩, rd_var rfl ?_⟩)))))
        have g2 := DGet.t (k := (Tm.vals M.I (look ρ) as).map (Sum.inl : Int → Key)) m4 (b := l) (by rw [s3, List.map_map]; rfl)
        refine ⟨_, g2, ?_⟩
        rw [m5]
        exact q _ s1
end
end K65
namespace K65
open PySem PySem.Spec PyProof.Rows L2
/-! ### what it means that an equation holds -/
mutual
theorem val_congr {I : Str → List Int → Int} {ρ ρ' : Int → Int} : ∀ {t : Tm}, (∀ n : Int, (.inl n : Key) ∈ t.syms → ρ n = ρ' n) → t.val I ρ = t.val I ρ'
  | .v n, h => h n (by simp [Tm.syms])
  | .a f as, h => by
    show I f _ = I f _
    rw [vals_congr (as := as) fun n hn => h n (List.mem_cons_of_mem _ hn)]
theorem vals_congr {I : Str → List Int → Int} {ρ ρ' : Int → Int} : ∀ {as : List Tm}, (∀ n : Int, (.inl n : Key) ∈ Tm.symss as → ρ n = ρ' n) → Tm.vals I ρ as = Tm.vals I ρ' as
  | [], _ => rfl
  | t :: r, h => by
    show t.val I ρ :: _ = t.val I ρ' :: _
    rw [val_congr (t := t) fun n hn => h n (List.mem_append.mpr (.inl hn)), vals_congr (as := r) fun n hn => h n (List.mem_append.mpr (.inr hn))]
end
def Val (M : Mdl) (ρ : Int → Int) : Prop := ∀ n, 0 ≤ ρ n ∧ ρ n < (M.sz : Int)
def HoldsIn (M : Mdl) (l r : Tm) : Prop := ∀ ρ, Val M ρ → l.val M.I ρ = r.val M.I ρ
def zipA : List Int → List Nat → Asg
  | n :: ns, e :: es => (n, (e : Int)) :: zipA ns es
  | _, _ => []
theorem zipA_keys : ∀ {ns : List Int} {es : List Nat}, ns.length = es.length → (zipA ns es).map (·.1) = ns
  | [], [], _ => rfl
  | n :: ns, e :: es, h => by
    show n :: (zipA ns es).map (·.1) = _
    rw [zipA_keys (by simpa using h)]
theorem zipA_snoc : ∀ {ns : List Int} {es : List Nat} {n : Int} {e : Nat}, ns.length = es.length → zipA (ns ++ [n]) (es ++ [e]) = zipA ns es ++ [(n, (e : Int))]
  | [], [], n, e, _ => rfl
  | m :: ns, x :: es, n, e, h => by
    show (m, (x : Int)) :: zipA (ns ++ [n]) (es ++ [e]) = _
    rw [zipA_snoc (by simpa using h)]
    rfl
theorem look_cons {n m : Int} {x : Int} {r : Asg} : look ((m, x) :: r) n = if n = m then x else look r n := by
  unfold look
  by_cases e : n = m
  · subst e; simp [List.lookup]
  · have e1 : (n == m) = false := by simpa using e
    simp [List.lookup, e1, e]
theorem look_zip {M : Mdl} (hs : 0 < M.sz) : ∀ {ns : List Int} {es : List Nat}, (∀ e ∈ es, e < M.sz) → Val M (look (zipA ns es))
  | [], es, _, n => by
    show 0 ≤ (0 : Int) ∧ (0 : Int) < _
    omega
  | m :: ns, [], _, n => by
    show 0 ≤ (0 : Int) ∧ (0 : Int) < _
    omega
  | m :: ns, e :: es, h, n => by
    rw [show zipA (m :: ns) (e :: es) = (m, (e : Int)) :: zipA ns es from rfl, look_cons]
    have h1 := h e List.mem_cons_self
    have h2 := look_zip hs (ns := ns) (es := es) (fun x hx => h x (List.mem_cons_of_mem _ hx)) n
    split
    · omega
    · exact h2
theorem look_map {M : Mdl} {ρ : Int → Int} (v : Val M ρ) {n : Int} : ∀ {ns : List Int}, n ∈ ns → look (zipA ns (ns.map fun n => (ρ n).toNat)) n = ρ n
  | m :: ns, h => by
    rw [show zipA (m :: ns) ((m :: ns).map fun n => (ρ n).toNat) = (m, (((ρ m).toNat : Nat) : Int)) :: zipA ns (ns.map fun n => (ρ n).toNat) from rfl, look_cons]
    split
    · rename_i e
      subst e
      exact Int.toNat_of_nonneg (v n).1
    · rename_i e
      exact look_map v ((List.mem_cons.mp h).resolve_left e)
/-- all rows for the names: this is what both searches go through -/
theorem holds_rows {M : Mdl} (hs : 0 < M.sz) {l r : Tm} {ns : List Int} (hm : ∀ n : Int, (.inl n : Key) ∈ l.syms ∨ (.inl n : Key) ∈ r.syms → n ∈ ns) :
    (∀ es : List Nat, es.length = ns.length → (∀ e ∈ es, e < M.sz) → l.val M.I (look (zipA ns es)) = r.val M.I (look (zipA ns es))) ↔ HoldsIn M l r := by
  constructor
  · intro h ρ v
    have e := h (ns.map fun n => (ρ n).toNat) (by simp) fun e he => by
      obtain ⟨n, _, rfl⟩ := List.mem_map.mp he
      have := v n
      omega
    rw [val_congr (ρ := ρ) (ρ' := look (zipA ns (ns.map fun n => (ρ n).toNat))) fun n hn => (look_map v (hm n (.inl hn))).symm,
      val_congr (t := r) (ρ := ρ) (ρ' := look (zipA ns (ns.map fun n => (ρ n).toNat))) fun n hn => (look_map v (hm n (.inr hn))).symm]
    exact e
  · intro h es _ he
    exact h _ (look_zip hs he)
theorem allB_iff {M : Mdl} {l r : Tm} : ∀ {rest : List Int} {pre : List Int} {ps : List Nat}, pre.length = ps.length →
    (allB M l r rest (zipA pre ps) = true ↔ ∀ es : List Nat, es.length = rest.length → (∀ e ∈ es, e < M.sz) → l.val M.I (look (zipA (pre ++ rest) (ps ++ es))) = r.val M.I (look (zipA (pre ++ rest) (ps ++ es))))
  | [], pre, ps, hl => by
    show decide _ = true ↔ _
    rw [decide_eq_true_iff]
    constructor
    · intro h es h1 _
      rw [List.eq_nil_of_length_eq_zero h1, List.append_nil, List.append_nil]
      exact h
    · intro h
      have := h [] rfl fun _ z => by cases z
      rwa [List.append_nil, List.append_nil] at this
  | n :: rest, pre, ps, hl => by
    show ((List.range M.sz).all fun e => allB M l r rest (zipA pre ps ++ [(n, (e : Int))])) = true ↔ _
    rw [List.all_eq_true]
    constructor
    · intro h es h1 h2
      cases es with
      | nil => cases h1
      | cons e es =>
        have h3 := h e (List.mem_range.mpr (h2 e List.mem_cons_self))
        rw [← zipA_snoc hl] at h3
        have h4 := (allB_iff (rest := rest) (pre := pre ++ [n]) (ps := ps ++ [e]) (by simp [hl])).mp h3 es (by simpa using h1) fun x hx => h2 x (List.mem_cons_of_mem _ hx)
        simpa using h4
    · intro h e he
      rw [← zipA_snoc hl]
      refine (allB_iff (rest := rest) (pre := pre ++ [n]) (ps := ps ++ [e]) (by simp [hl])).mpr fun es h1 h2 => ?_
      have h3 := h (e :: es) (by simp [h1]) fun x hx => (List.mem_cons.mp hx).elim (fun z => by rw [z]; exact List.mem_range.mp he) (h2 x)
      simpa using h3
theorem holdsB_iff {M : Mdl} (hs : 0 < M.sz) {l r : Tm} : holdsB M l r = true ↔ HoldsIn M l r := by
  unfold holdsB
  rw [show ([] : Asg) = zipA [] [] from rfl, allB_iff (pre := []) (ps := []) rfl, ← holds_rows hs (ns := eqVars l r) fun n hn => mem_eqVars.mpr hn]
  simp
/-! ### _law_first_difference -/
section
variable {P : Program} {w : World} {K : PySem.W.Frag} {mg : Str → Option Value} {base : Heap}
@[irreducible] def spLFd : Sp := fun vs H Q _ => ∃ M m l r x y, vs = [m, x, y] ∧ IsMod H M m ∧ 0 < M.sz ∧ M.sz ≤ 3 ∧ IsTm H l x ∧ IsTm H r y ∧ l.depth ≤ 12 ∧ l.size ≤ 10000 ∧ r.depth ≤ 12 ∧ r.size ≤ 10000 ∧ l.ofs M.fs ∧ r.ofs M.fs ∧ (∀ ns, LV2 l r ns → ns.length ≤ 5) ∧
  ∀ v H', Same H H' → (v = .non ↔ HoldsIn M l r) → Q v H'
theorem spLFd.i {H : Hp} {Q : VK} {E : XK} {M : Mdl} {m : V} {l r : Tm} {x y : V} (h1 : IsMod H M m) (h2 : 0 < M.sz) (h2' : M.sz ≤ 3) (h3 : IsTm H l x) (h4 : IsTm H r y) (h5 : l.depth ≤ 12) (h6 : l.size ≤ 10000) (h7 : r.depth ≤ 12) (h8 : r.size ≤ 10000) (h9 : l.ofs M.fs) (h10 : r.ofs M.fs) (h11 : ∀ ns, LV2 l r ns → ns.length ≤ 5)
    (q : ∀ v H', Same H H' → (v = .non ↔ HoldsIn M l r) → Q v H') : spLFd [m, x, y] H Q E := by
  unfold spLFd
  exact ⟨M, m, l, r, x, y, rfl, h1, h2, h2', h3, h4, h5, h6, h7, h8, h9, h10, h11, q⟩
theorem c_lfd (T : TopF K mg) : Cal P w K mg base CX0 14 "_law_first_difference" ["_law_model_here", "_law_left", "_law_right"] spLFd := by
  refine k_L_first_difference T (fun vs H Q E h => by unfold spLFd at h; obtain ⟨_, _, _, _, _, _, rfl, _⟩ := h; rfl) (fun cdv A outer s H vs Q E hr h => ?_)
  unfold spLFd at h
  obtain ⟨M, m, l, r, x, y, rfl, hm, hs0, hs3, hl, hrt, d1, z1, d2, z2, f1, f2, h5, q⟩ := h
  refine ⟨_, pss_cons (ps_set (i := 3) sc_L_first_difference.nd rfl (Or.inl rfl) (pe_cal (c_eqN T 12) hr rfl pass0 (pa_cons (pv 1) (pa_cons (pv 2) pa_nil))))
    (pss_cons (ps_for PassesOwn.never rfl (pi_list (pe_cal (c_tuples T 7) (hr.mono (by omega)) rfl pass0 (pa_cons (pe_callB call_len rfl T.z_len (by decide +kernel) (pa_cons (pv 3) pa_nil)) (pa_cons (pe_ix ix_tup (pv 0) pe_int (fun _ _ => rfl)) pa_nil)))) (pg_name (i := 4) sc_L_first_difference.nd rfl (Or.inl rfl))
      (pss_cons (ps_set (i := 5) sc_L_first_difference.nd rfl (Or.inl rfl) pe_dnewK)
      (pss_cons (ps_for PassesOwn.never rfl (pi_range1 rfl T.z_range (pa_cons (pe_callB call_len rfl T.z_len (by decide +kernel) (pa_cons (pv 3) pa_nil)) pa_nil)) (pg_name (i := 6) sc_L_first_difference.nd rfl (Or.inl rfl))
        (pss_one (ps_dput (hu_of hr) (pv 5) (pe_ix ix_list (pv 3) (pv 6) (fun _ _ => rfl)) (pe_ix ix_tup (pv 4) (pv 6) (fun _ _ => rfl)) rfl)))
      (pss_one (ps_if (pt_cmpR op_ne (pe_cal (c_lvalue T 12) (hr.mono (by omega)) rfl pass0 (pa_cons (pv 0) (pa_cons (pv 1) (pa_cons (pv 5) pa_nil)))) (pe_cal (c_lvalue T 12) (hr.mono (by omega)) rfl pass0 (pa_cons (pv 0) (pa_cons (pv 2) (pa_cons (pv 5) pa_nil)))) (nomark _))
        (pss_one (ps_ret (pv 5))) pss_nil)))))
    (pss_one (ps_ret pe_non))), ?_⟩
  refine rd_let (rd_call2 (rd_var rfl (rd_var rfl (spEqN.i hl hrt d1 z1 d2 z2 fun p ns H1 np s1 hp lv => ?_))))
  have hn5 := h5 ns lv
  obtain ⟨pm, dm, kvs, rfl, m1, m2, m3⟩ := id (hm.mono s1)
  refine rd_seq (rd_for (rd_iList (rd_call2 (rd_B1 (rd_var rfl ⟨_, _, rfl, .inl ⟨_, sql hp, rfl⟩, rd_ixTc rfl m1 at0 ?_⟩)))))
  rw [List.length_map]
  refine spTup.i (by omega) (by omega) hs3 fun b ys H2 nb s2 hb hys => ⟨b, rfl, ⟨_, sql hb⟩, ?_⟩
  have s12 := s1.trans s2
  have hyl := hys.len
  have hpre := s2 _ _ hp
  refine for_list (K := K) (a := b) (xs := ys) (fun i σ H' => ∃ z4 z5 z6, σ = [some (.ref pm), some x, some y, some (.ref p), z4, z5, z6] ∧ Same H2 H' ∧ ∀ row ∈ (rows M.sz ns.length).take i, l.val M.I (look (zipA ns row)) = r.val M.I (look (zipA ns row)))
    ⟨_, _, _, rfl, Same.refl _, fun _ z => by simp at z⟩ (fun i σ H' _ hh => ?_) ?_ ?_
  · obtain ⟨z4, z5, z6, rfl, c1, _⟩ := hh
    exact sql (c1 _ _ hb)
  · rintro i v σ H3 hi ⟨z4, z5, z6, rfl, c1, c2⟩
    obtain ⟨row, hrow, ⟨rr, rfl, hrr⟩⟩ := hys.get hi
    have hrr := c1 _ _ hrr
    obtain ⟨hrl, hre⟩ := mem_rows.mp (List.mem_of_getElem? hrow)
    have tk := take_succ' hrow
    refine rd_name (rd_let (rd_dnewK fun d nd => ?_))
    have t0 : Same H3 (upd H3 d (.dK [])) := Same.new nd _
    have hpd : p ≠ d := fun z => by rw [← z, c1 _ _ hpre] at nd; cases nd
    refine rd_seq (rd_for (rd_rng1 (rd_cons1 (rd_B1 (rd_var rfl ⟨_, _, rfl, .inl ⟨_, sql (t0 _ _ (c1 _ _ hpre)), rfl⟩, ((ns.map V.int).length : Int), rfl, ?_, ?_, ?_⟩)))))
    · rw [List.length_map]; omega
    · rw [List.length_map]; omega
    rw [List.length_map, show ((ns.length : Nat) : Int).toNat = ns.length from Int.toNat_natCast _]
    refine for_range (lo := 0) (n := ns.length) (fun j σ H' => ∃ z6, σ = [some (.ref pm), some x, some y, some (.ref p), some (.ref rr), some (.ref d), z6] ∧ Same H3 H' ∧ H' d = some (.dK (kvA (zipA (ns.take j) (row.take j)))))
      ⟨_, rfl, t0, by rw [upd_same]; rfl⟩ ?_ ?_
    · rintro j σ H4 hj ⟨z6, rfl, e1, e2⟩
      have a1 : ns[j]? = some ns[j] := List.getElem?_eq_getElem hj
      have a2 : row[j]? = some row[j] := List.getElem?_eq_getElem (by omega)
      have at1' : atI (ns.map V.int) (0 + (j : Nat)) = some (.int ns[j]) := by rw [Int.zero_add]; exact atI_nat (by rw [List.getElem?_map, a1]; rfl)
      have at2' : atI (row.map pI) (0 + (j : Nat)) = some (pI (row[j]'(by omega))) := by rw [Int.zero_add]; exact atI_nat (by rw [List.getElem?_map, a2]; rfl)
      have hnew : ns[j] ∉ (zipA (ns.take j) (row.take j)).map (·.1) := by
        rw [zipA_keys (by rw [List.length_take, List.length_take]; omega)]
        intro z
        have h1 := lv.nd
        rw [← List.take_append_drop j ns] at h1
        have h2 := (List.nodup_append.mp h1).2.2 _ z ns[j] (by rw [List.drop_eq_getElem_cons hj]; exact List.mem_cons_self)
        exact h2 rfl
      refine rd_name (rd_dput (rd_ixTv rfl rfl (e1 _ _ hrr) at2' (rd_var rfl (rd_ixLv rfl rfl (e1 _ _ (c1 _ _ hpre)) at1' ⟨d, _, rfl, DPut.k (k := (.inl ns[j] : Key)) e2 ?_, _, rfl, Same.mut e1 nd, ?_⟩))))
      · rw [sizeLine_eq]
        unfold kvA
        have : (zipA (ns.take j) (row.take j)).length = j := by
          have z := congrArg List.length (zipA_keys (ns := ns.take j) (es := row.take j) (by rw [List.length_take, List.length_take]; omega))
          rw [List.length_map, List.length_take] at z
          omega
        rw [List.length_map, this]
        omega
      · rw [upd_same, put_kvA hnew, take_succ' a1, take_succ' a2, zipA_snoc (by rw [List.length_take, List.length_take]; omega)]
    · rintro σ H4 ⟨z6, rfl, e1, e2⟩
      rw [List.take_length, ← hrl, List.take_length] at e2
      have s4 := (s12.trans c1).trans e1
      have hk : ∀ n : Int, (.inl n : Key) ∈ l.syms ∨ (.inl n : Key) ∈ r.syms → n ∈ (zipA ns row).map (·.1) := fun n hn => by
        rw [zipA_keys hrl.symm]
        exact (lv.mem n).mpr hn
      refine rd_nx (rd_if (rd_test (rd_op (rd_call3 (rd_var rfl (rd_var rfl (rd_var rfl (spVal.i (hm.mono s4) (hl.mono (Tups.same s4)) d1 (by omega) f1 e2 (fun n hn => hk n (.inl hn)) fun H5 s5 => ?_))))))))
      refine rd_call3 (rd_var rfl (rd_var rfl (rd_var rfl (spVal.i (hm.mono (s4.trans s5)) (hrt.mono (Tups.same (s4.trans s5))) d2 (by omega) f2 (s5 _ _ e2) (fun n hn => hk n (.inr hn)) fun H6 s6 => ⟨rfl, _, rfl, ?_⟩))))
      by_cases e : l.val M.I (look (zipA ns row)) = r.val M.I (look (zipA ns row))
      · rw [decide_eq_true (by rw [e])]
        refine iteF (rd_next ⟨_, _, _, rfl, ((c1.trans e1).trans s5).trans s6, fun row' hr' => ?_⟩)
        rw [tk] at hr'
        rcases List.mem_append.mp hr' with z | z
        · exact c2 row' z
        · rw [List.mem_singleton.mp z]; exact e
      · rw [decide_eq_false (fun z => e (V.int.inj z))]
        refine iteT (rd_ret (rd_var rfl (q _ _ ((s4.trans s5).trans s6) ⟨fun z => (by cases z), fun hh => ?_⟩)))
        exact absurd (hh _ (look_zip hs0 hre)) e
  · rintro σ H3 ⟨z4, z5, z6, rfl, c1, c2⟩
    rw [hyl, List.take_length] at c2
    refine rd_nx (rd_ret (rd_c (q _ _ (s12.trans c1) ⟨fun _ => ?_, fun _ => rfl⟩)))
    exact (holds_rows hs0 (ns := ns) fun n hn => (lv.mem n).mpr hn).mp fun es h1 h2 => c2 es (mem_rows.mpr ⟨h1, h2⟩)
end
end K65
namespace K65
open PySem PySem.Spec PyProof.Rows L2
/-! ### the drawn model -/
structure GoodM (M : Mdl) : Prop where
  pos : 0 < M.sz
  le : M.sz ≤ 3
  rg : ∀ f args, 0 ≤ M.I f args ∧ M.I f args < (M.sz : Int)
theorem IsTab.fr {a sc : Addr} {H H' : Hp} {g : List Int → Int} {v : V} (h : IsTab H g v) (st : St a sc H) (s : Fr [a] H H') : IsTab H' g v := by
  obtain ⟨td, tvs, e, h1, h2⟩ := h
  refine ⟨td, tvs, e, s.keep (fun z => ?_) h1, h2⟩
  obtain ⟨n, i, sd, scr, e1, _⟩ := st
  rw [List.mem_singleton.mp z, e1] at h1
  cases h1
theorem IsTab.upd {d : Addr} {H : Hp} {g : List Int → Int} {v : V} {kvs : List (Key × V)} {o : HO} (h : IsTab H g v) (hd : H d = some (.dK kvs)) : IsTab (upd H d o) g v := by
  obtain ⟨td, tvs, e, h1, h2⟩ := h
  refine ⟨td, tvs, e, ?_, h2⟩
  rw [upd_ne (fun z => by rw [z, hd] at h1; cases h1)]
  exact h1
theorem inl_inj : ∀ {xs ys : List Int}, xs.map (Sum.inl : Int → Key) = ys.map Sum.inl → xs = ys
  | [], [], _ => rfl
  | [], _ :: _, h => by cases h
  | _ :: _, [], h => by cases h
  | x :: xs, y :: ys, h => by
    have h1 := List.cons.inj h
    rw [Sum.inl.inj h1.1, inl_inj h1.2]
section
variable {P : Program} {w : World} {K : PySem.W.Frag} {mg : Str → Option Value} {base : Heap}
@[irreducible] def spModel : Sp := fun vs H Q _ => ∃ a sc o ops sz, vs = [.ref a, .ref o, .int ((sz : Nat) : Int)] ∧ 0 < sz ∧ sz ≤ 3 ∧ St a sc H ∧ GoodOps ops ∧ IsOps H ops o ∧
  ∀ v M H', M.fs = ops.map (·.1) → GoodM M → IsMod H' M v → Fr [a] H H' → St a sc H' → Q v H'
theorem spModel.i {H : Hp} {a sc o : Addr} {ops : List Op} {sz : Nat} {Q : VK} {E : XK} (h0 : 0 < sz) (h1 : sz ≤ 3) (h2 : St a sc H) (h3 : GoodOps ops) (h4 : IsOps H ops o)
    (q : ∀ v M H', M.fs = ops.map (·.1) → GoodM M → IsMod H' M v → Fr [a] H H' → St a sc H' → Q v H') : spModel [.ref a, .ref o, .int (sz : Int)] H Q E := by
  unfold spModel
  exact ⟨a, sc, o, ops, sz, rfl, h0, h1, h2, h3, h4, q⟩
theorem c_model (T : TopF K mg) : Cal P w K mg base CX0 8 "_law_model" ["_law_state_here", "_law_operations_here", "_law_size"] spModel := by
  refine k_L_model T (fun vs H Q E h => by unfold spModel at h; obtain ⟨_, _, _, _, _, rfl, _⟩ := h; rfl) (fun cdv A outer s H vs Q E hr h => ?_)
  unfold spModel at h
  obtain ⟨a, sc, o, ops, sz, rfl, hs0, hs3, hst, hg, ho, q⟩ := h
  refine ⟨_, pss_cons (ps_set (i := 3) sc_L_model.nd rfl (Or.inl rfl) pe_dnewK)
    (pss_cons (ps_for PassesOwn.never rfl (pi_list (pv 1)) (pg_tup rfl (pgs_cons (pg_name (i := 4) sc_L_model.nd rfl (Or.inl rfl)) (pgs_cons (pg_name (i := 5) sc_L_model.nd rfl (Or.inl rfl)) pgs_nil)))
      (pss_cons (ps_set (i := 6) sc_L_model.nd rfl (Or.inl rfl) pe_dnewT)
      (pss_cons (ps_for PassesOwn.never rfl (pi_list (pe_cal (c_tuples T 7) hr rfl pass0 (pa_cons (pv 5) (pa_cons (pv 2) pa_nil)))) (pg_name (i := 7) sc_L_model.nd rfl (Or.inl rfl))
        (pss_cons (ps_set (i := 8) sc_L_model.nd rfl (Or.inl rfl) (pe_cal (c_draw T) (hr.mono (by omega)) rfl pass0 (pa_cons (pv 0) (pa_cons (pv 2) pa_nil))))
        (pss_one (ps_if (pt_cmpR op_gt (pv 8) pe_int (nomark _)) (pss_one (ps_dput (hu_of hr) (pv 6) (pv 7) (pv 8) rfl)) pss_nil))))
      (pss_one (ps_dput (hu_of hr) (pv 3) (pv 4) (pv 6) rfl)))))
    (pss_one (ps_ret (pe_tup (pa_cons (pv 2) (pa_cons (pv 3) pa_nil)))))), ?_⟩
  have hsz0 : (0 : Int) < (sz : Int) := by omega
  refine rd_let (rd_dnewK fun d nd => ?_)
  obtain ⟨da, ds⟩ := hst.ne nd
  obtain ⟨os, o1, o2⟩ := id ho
  have hoa := ho.ne hg hst
  have hod : o ≠ d := fun z => by rw [← z, o1] at nd; cases nd
  have t0 : Fr [a] H (upd H d (.dK [])) := Fr.new nd
  have hol := o2.len
  have ho' : ∀ {H' : Hp}, Fr [a] H H' → H' o = some (.lst os) := fun s => s.keep (fun z => hoa (List.mem_singleton.mp z)) o1
  refine rd_seq (rd_for (rd_listv rfl (ho' t0) ?_))
  refine for_list (K := K) (a := o) (xs := os) (fun i σ H' => ∃ z4 z5 z6 z7 z8 kvs, ∃ I : Str → List Int → Int, σ = [some (.ref a), some (.ref o), some (.int (sz : Int)), some (.ref d), z4, z5, z6, z7, z8] ∧ Fr [a] H H' ∧ St a sc H' ∧ H' d = some (.dK kvs) ∧ kvs.length ≤ i ∧
      (∀ op ∈ ops.take i, ∃ x, valV kvs (.inr op.1) = some x ∧ IsTab H' (I op.1) x) ∧ ∀ f args, 0 ≤ I f args ∧ I f args < (sz : Int))
    ⟨_, _, _, _, _, [], fun _ _ => 0, rfl, t0, hst.upd da ds, upd_same, Nat.le_refl _, fun _ z => (by simp at z), fun _ _ => ⟨Int.le_refl _, hsz0⟩⟩ (fun i σ H' _ hh => ?_) ?_ ?_
  · obtain ⟨z4, z5, z6, z7, z8, kvs, I, rfl, c1, _⟩ := hh
    exact sql (ho' c1)
  · rintro i v σ H1 hi ⟨z4, z5, z6, z7, z8, kvs, I, rfl, c1, c2, c3, c4, c5, c6⟩
    have ho1 := ho.fr hg hst c1
    obtain ⟨os', o1', o2'⟩ := ho1
    have eos : os' = os := by rw [ho' c1] at o1'; exact (HO.lst.inj (Option.some.inj o1')).symm
    subst eos
    obtain ⟨op, hop, ⟨p, rfl, hp⟩⟩ := o2'.get hi
    have hil := (List.getElem?_eq_some_iff.mp hop).1
    have g5 := hg.l5
    have hk3 : op.2 ≤ 3 := by
      have := List.mem_of_getElem? (hg.ar i op hop).symm
      simp at this
      omega
    have tk := take_succ' hop
    refine rd_unl2 rfl hp (rd_let (rd_dnewT fun t nt => ?_))
    obtain ⟨ta, ts⟩ := c2.ne nt
    have tH : no [a] H1 t = none := no_none nt
    have u1 : Fr [a] H1 (upd H1 t (.dT [])) := Fr.new nt
    have v1 : St a sc (upd H1 t (.dT [])) := c2.upd ta ts
    refine rd_seq (rd_for (rd_iList (rd_call2 (rd_var rfl (rd_var rfl (spTup.i (by omega) (by omega) hs3 fun b ys H2 nb s2 hb hys => ⟨b, rfl, ⟨_, sql hb⟩, ?_⟩))))))
    have hba := (v1.ne nb).1
    have hbt : b ≠ t := fun z => by rw [z, upd_same] at nb; cases nb
    have hyl := hys.len
    have r3 := rows_729 (sz := sz) (n := op.2) hs3 (by omega)
    refine for_list (K := K) (a := b) (xs := ys) (fun j σ H' => ∃ z7 z8 tvs, ∃ g : List Int → Int, σ = [some (.ref a), some (.ref o), some (.int (sz : Int)), some (.ref d), some (.str op.1), some (.int (op.2 : Int)), some (.ref t), z7, z8] ∧ Fr [a] H1 H' ∧ St a sc H' ∧ H' b = some (.lst ys) ∧ A2 (IsPos H') (rows sz op.2) ys ∧
        H' t = some (.dT tvs) ∧ tvs.length ≤ j ∧ ∀ args : List Int, (valV tvs (args.map (Sum.inl : Int → Key))).getD (.int 0) = .int (g args) ∧ 0 ≤ g args ∧ g args < (sz : Int))
      ⟨_, _, [], fun _ => 0, rfl, u1.trans (Fr.of s2), v1.mono s2, hb, hys, s2 _ _ upd_same, Nat.le_refl _, fun args => ⟨rfl, Int.le_refl _, hsz0⟩⟩ (fun j σ H' _ hh => ?_) ?_ ?_
    · obtain ⟨z7, z8, tvs, g, rfl, _, _, d3, _⟩ := hh
      exact sql d3
    · rintro j v σ H3 hj ⟨z7, z8, tvs, g, rfl, d1, d2, d3, d4, d5, d6, d7⟩
      obtain ⟨row, hrow, ⟨r, rfl, hr'⟩⟩ := d4.get hj
      have hjl := (List.getElem?_eq_some_iff.mp hrow).1
      refine rd_name (rd_let (rd_call2 (rd_var rfl (rd_var rfl (spDraw.i (by omega) (by omega) d2 fun n H4 hn f4 s4 => ?_)))))
      have tt := tups_st d2 f4
      have e3 : H4 b = some (.lst ys) := f4.keep (fun z => hba (List.mem_singleton.mp z)) d3
      have e5 : H4 t = some (.dT tvs) := f4.keep (fun z => ta (List.mem_singleton.mp z)) d5
      refine rd_if (rd_test (rd_op (rd_var rfl ⟨_, _, rfl, rfl, _, rfl, ?_⟩)))
      split
      · have er : (row.map pI) = ((row.map fun e : Nat => (e : Int)).map (Sum.inl : Int → Key)).map kV := by
          rw [List.map_map, List.map_map]
          rfl
        refine rd_dput (rd_var rfl (rd_var rfl (rd_var rfl ⟨t, _, rfl, DPut.t (k := (row.map fun e : Nat => (e : Int)).map (Sum.inl : Int → Key)) e5 (by rw [← er]; exact tt _ _ hr') (by rw [sizeLine_eq]; omega), _, _, _, fun args => if args = row.map (fun e : Nat => (e : Int)) then (n : Int) else g args, rfl, (d1.trans f4).mut tH, s4.upd ta ts, by rw [upd_ne hbt]; exact e3, d4.poss (tt.trans ((Tups.refl _).mut e5 fun _ z => by cases z)), upd_same, ?_, fun args => ?_⟩)))
        · have := length_putK tvs ((row.map fun e : Nat => (e : Int)).map (Sum.inl : Int → Key)) (.int (n : Int))
          omega
        · dsimp only
          rw [valV_put]
          by_cases e : args = row.map (fun e : Nat => (e : Int))
          · rw [if_pos e, if_pos (by rw [e])]
            exact ⟨rfl, by omega, hn⟩
          · rw [if_neg e, if_neg (fun z => e (inl_inj z))]
            exact d7 args
      · exact rd_next ⟨_, _, tvs, g, rfl, d1.trans f4, s4, e3, d4.poss tt, e5, by omega, d7⟩
    · rintro σ H3 ⟨z7, z8, tvs, g, rfl, d1, d2, d3, d4, d5, d6, d7⟩
      have e3 : H3 d = some (.dK kvs) := d1.keep (fun z => da (List.mem_singleton.mp z)) c3
      refine rd_nx (rd_dput (rd_var rfl (rd_var rfl (rd_var rfl ⟨d, _, rfl, DPut.k (k := (.inr op.1 : Key)) e3 (by rw [sizeLine_eq]; omega), _, _, _, _, _, _, fun f => if f = op.1 then g else I f, rfl, (c1.trans d1).mut (no_none nd), d2.upd da ds, upd_same, ?_, fun op' hop' => ?_, fun f args => ?_⟩))))
      · have := length_putK kvs (.inr op.1 : Key) (.ref t)
        omega
      · dsimp only
        rw [valV_put]
        by_cases e : op'.1 = op.1
        · refine ⟨.ref t, by rw [if_pos (by rw [e])], ?_⟩
          rw [if_pos e]
          exact IsTab.upd ⟨t, tvs, rfl, d5, fun args => (d7 args).1⟩ e3
        · rw [if_neg (fun z => e (Sum.inr.inj z))]
          rw [tk] at hop'
          rcases List.mem_append.mp hop' with z | z
          · obtain ⟨x, hx, htab⟩ := c5 op' z
            refine ⟨x, hx, ?_⟩
            rw [if_neg e]
            exact (htab.fr c2 d1).upd e3
          · exact absurd (by rw [List.mem_singleton.mp z]) e
      · show 0 ≤ (if f = op.1 then g else I f) args ∧ (if f = op.1 then g else I f) args < _
        split
        · exact (d7 args).2
        · exact c6 f args
  · rintro σ H1 ⟨z4, z5, z6, z7, z8, kvs, I, rfl, c1, c2, c3, c4, c5, c6⟩
    rw [hol, List.take_length] at c5
    refine rd_nx (rd_ret (rd_tup (rd_cons2 (rd_var rfl (rd_var rfl ⟨ln_ok, fun p np => ?_⟩)))))
    have s1 : Same H1 (upd H1 p (.tup [.int (sz : Int), .ref d])) := Same.new np _
    refine q _ ⟨sz, ops.map (·.1), I⟩ _ rfl ⟨hs0, hs3, c6⟩ ⟨p, d, kvs, rfl, upd_same, s1 _ _ c3, fun f hf => ?_⟩ (c1.trans (Fr.of s1)) (c2.mono s1)
    obtain ⟨op, hop, rfl⟩ := List.mem_map.mp hf
    obtain ⟨x, hx, td, tvs, e, h1, h2⟩ := c5 op hop
    exact ⟨x, hx, td, tvs, e, s1 _ _ h1, h2⟩
end
end K65
namespace K65
open PySem PySem.Spec PyProof.Rows L2
/-! ### soundness: a derivation from equations that hold leads to one that holds -/
mutual
theorem val_range {M : Mdl} (g : GoodM M) {ρ : Int → Int} (v : Val M ρ) : ∀ t : Tm, 0 ≤ t.val M.I ρ ∧ t.val M.I ρ < (M.sz : Int)
  | .v n => v n
  | .a f as => g.rg f _
end
mutual
theorem val_subst {I : Str → List Int → Int} {ρ : Int → Int} {s : Sub} : ∀ t : Tm, (t.subst s).val I ρ = t.val I (fun n => ((s.lookup n).getD (.v n)).val I ρ)
  | .v n => rfl
  | .a f as => by
    show I f _ = I f _
    rw [vals_subst as]
theorem vals_subst {I : Str → List Int → Int} {ρ : Int → Int} {s : Sub} : ∀ ts : List Tm, Tm.vals I ρ (Tm.substs s ts) = Tm.vals I (fun n => ((s.lookup n).getD (.v n)).val I ρ) ts
  | [] => rfl
  | t :: r => by
    show (t.subst s).val I ρ :: _ = _ :: _
    rw [val_subst t, vals_subst r]
end
theorem vals_modify {I : Str → List Int → Int} {ρ : Int → Int} {g : Tm → Tm} : ∀ {as : List Tm} {m : Nat} {u : Tm}, as[m]? = some u → (g u).val I ρ = u.val I ρ → Tm.vals I ρ (as.modify m g) = Tm.vals I ρ as
  | [], m, u, h, _ => by simp at h
  | a :: as, 0, u, h, e => by
    simp at h
    subst h
    simp only [List.modify_zero_cons, Tm.vals, e]
  | a :: as, m + 1, u, h, e => by
    simp only [List.modify_succ_cons, Tm.vals]
    rw [vals_modify (as := as) (m := m) (by simpa using h) e]
theorem val_repl {I : Str → List Int → Int} {ρ : Int → Int} : ∀ {p : List Nat} {t x y : Tm}, t.sub p = some x → x.val I ρ = y.val I ρ → (t.repl p y).val I ρ = t.val I ρ
  | [], t, x, y, h, e => by
    cases h
    rw [show t.repl [] y = y by cases t <;> rfl, e]
  | k :: r, t, x, y, h, e => by
    have h' : (t.arg k).bind (·.sub r) = some x := h
    cases q : t.arg k with
    | none => rw [q] at h'; cases h'
    | some u =>
      rw [q] at h'
      cases t with
      | v n => cases q
      | a f as =>
        cases k with
        | zero => cases q
        | succ k =>
          show I f (Tm.vals I ρ (as.modify k fun t => t.repl r y)) = I f _
          rw [vals_modify (g := fun t => t.repl r y) (show as[k]? = some u from q) (val_repl (p := r) h' e)]
theorem subst_holds {M : Mdl} (g : GoodM M) {l r : Tm} (h : HoldsIn M l r) {s : Sub} {ρ : Int → Int} (v : Val M ρ) : (l.subst s).val M.I ρ = (r.subst s).val M.I ρ := by
  rw [val_subst, val_subst]
  exact h _ fun n => val_range g v _
theorem step_sound {M : Mdl} (g : GoodM M) {given : List Eqn} {stages : List Stg} (hg : ∀ e ∈ given, HoldsIn M e.1 e.2) (hst : ∀ s ∈ stages, HoldsIn M s.l s.r) {t u : Tm} {s : Stp} (h : stepTm given stages t s = some u) {ρ : Int → Int} (v : Val M ρ) : t.val M.I ρ = u.val M.I ρ := by
  unfold stepTm at h
  split at h
  · cases h
  · rename_i e he
    have ge : HoldsIn M e.1 e.2 := by
      unfold namedAt at he
      split at he
      · exact hg e (List.mem_of_getElem? he)
      · cases q : stages[s.idx]? with
        | none => rw [q] at he; cases he
        | some g =>
          rw [q] at he
          cases he
          exact hst g (List.mem_of_getElem? q)
    split at h
    · split at h
      · cases h
      · rename_i x hx
        split at h
        · rename_i ex
          split at h
          · cases h
          · cases h
            refine (val_repl hx ?_).symm
            rw [ex]
            cases s.fwd with
            | true => exact subst_holds g ge v
            | false => exact (subst_holds g ge v).symm
        · cases h
    · cases h
theorem visit_sound {M : Mdl} (g : GoodM M) {given : List Eqn} {stages : List Stg} (hg : ∀ e ∈ given, HoldsIn M e.1 e.2) (hst : ∀ s ∈ stages, HoldsIn M s.l s.r) {ρ : Int → Int} (v : Val M ρ) : ∀ {steps : List Stp} {t u : Tm}, visit given stages t steps = some u → t.val M.I ρ = u.val M.I ρ
  | [], t, u, h => by cases h; rfl
  | s :: r, t, u, h => by
    have h' : (stepTm given stages t s).bind (fun x => visit given stages x r) = some u := h
    cases q : stepTm given stages t s with
    | none => rw [q] at h'; cases h'
    | some x =>
      rw [q] at h'
      exact (step_sound g hg hst q v).trans (visit_sound g hg hst v h')
theorem leads_sound {M : Mdl} (g : GoodM M) {given : List Eqn} {stages : List Stg} (hg : ∀ e ∈ given, HoldsIn M e.1 e.2) (hst : ∀ s ∈ stages, HoldsIn M s.l s.r) {s : Stg} (h : leadsB given stages s = true) : HoldsIn M s.l s.r := fun ρ v => by
  unfold leadsB at h
  split at h
  · cases h
  · rename_i u hu
    rw [visit_sound g hg hst v hu, of_decide_eq_true h]
theorem derB_sound {M : Mdl} (g : GoodM M) {given : List Eqn} (hg : ∀ e ∈ given, HoldsIn M e.1 e.2) : ∀ {stages earlier : List Stg}, (∀ s ∈ earlier, HoldsIn M s.l s.r) → derB given earlier stages = true → ∀ s ∈ stages, HoldsIn M s.l s.r
  | [], earlier, _, _, s, hs => by cases hs
  | x :: r, earlier, he, h, s, hs => by
    obtain ⟨h1, h2⟩ := Bool.and_eq_true_iff.mp (show (leadsB given earlier x && derB given (earlier ++ [x]) r) = true from h)
    have hx := leads_sound g hg he h1
    rcases List.mem_cons.mp hs with e | hs
    · rw [e]; exact hx
    · exact derB_sound g hg (earlier := earlier ++ [x]) (fun y hy => (List.mem_append.mp hy).elim (he y) fun z => by rw [List.mem_singleton.mp z]; exact hx) h2 s hs
theorem derivB_sound {M : Mdl} (g : GoodM M) {given : List Eqn} (hg : ∀ e ∈ given, HoldsIn M e.1 e.2) {l r : Tm} {stages : List Stg} (h : derivB given l r stages = true) : HoldsIn M l r := by
  unfold derivB at h
  split at h
  · cases h
  · rename_i s hs
    obtain ⟨h1, h2⟩ := Bool.and_eq_true_iff.mp h
    obtain ⟨h3, h4⟩ := Bool.and_eq_true_iff.mp h2
    rw [← of_decide_eq_true h3, ← of_decide_eq_true h4]
    exact derB_sound g hg (earlier := []) (fun _ z => by cases z) h1 s (List.mem_of_getLast? hs)
/-! ### the built steps apply -/
theorem subst_id {s : Sub} : ∀ {t : Tm}, (∀ n : Int, (.inl n : Key) ∈ t.syms → s.lookup n = some (.v n) ∨ s.lookup n = none) → t.subst s = t := by
  have key : ∀ k : Nat, ∀ t : Tm, t.size ≤ k → (∀ n : Int, (.inl n : Key) ∈ t.syms → s.lookup n = some (.v n) ∨ s.lookup n = none) → t.subst s = t := by
    intro k
    induction k with
    | zero =>
      intro t h
      have : 1 ≤ t.size := by cases t <;> simp [Tm.size] <;> omega
      omega
    | succ k ih =>
      intro t h hs
      cases t with
      | v n =>
        show (s.lookup n).getD (.v n) = .v n
        rcases hs n (by simp [Tm.syms]) with e | e <;> rw [e] <;> rfl
      | a f as =>
        have hl : ∀ ts : List Tm, Tm.sizes ts ≤ k → (∀ n : Int, (.inl n : Key) ∈ Tm.symss ts → s.lookup n = some (.v n) ∨ s.lookup n = none) → Tm.substs s ts = ts := by
          intro ts
          induction ts with
          | nil => intro _ _; rfl
          | cons t r ih2 =>
            intro h1 h2
            have h1' : t.size + Tm.sizes r ≤ k := h1
            show t.subst s :: Tm.substs s r = _
            rw [ih t (by omega) fun n hn => h2 n (List.mem_append.mpr (.inl hn)), ih2 (by omega) fun n hn => h2 n (List.mem_append.mpr (.inr hn))]
        show Tm.a f (Tm.substs s as) = _
        rw [hl as (by have : 1 + Tm.sizes as ≤ k + 1 := h; omega) fun n hn => hs n (List.mem_cons_of_mem _ hn)]
  exact fun {t} h => key t.size t (Nat.le_refl _) h
theorem substs_modify {s : Sub} {g : Tm → Tm} : ∀ {as : List Tm} {m : Nat} {u : Tm}, as[m]? = some u → (g u).subst s = u → (∀ i t, i ≠ m → as[i]? = some t → t.subst s = t) → Tm.substs s (as.modify m g) = as
  | [], m, u, h, _, _ => by simp at h
  | a :: as, 0, u, h, e, o => by
    simp at h
    subst h
    simp only [List.modify_zero_cons, Tm.substs, e]
    congr 1
    have hl : ∀ ts : List Tm, (∀ t ∈ ts, t.subst s = t) → Tm.substs s ts = ts := by
      intro ts
      induction ts with
      | nil => intro _; rfl
      | cons t r ih => intro h; simp only [Tm.substs]; rw [h t List.mem_cons_self, ih fun t ht => h t (List.mem_cons_of_mem _ ht)]
    refine hl as fun t ht => ?_
    obtain ⟨i, hi⟩ := List.getElem?_of_mem ht
    exact o (i + 1) t (by omega) (by simpa using hi)
  | a :: as, m + 1, u, h, e, o => by
    simp only [List.modify_succ_cons, Tm.substs]
    rw [o 0 a (by omega) rfl, substs_modify (as := as) (m := m) (by simpa using h) e fun i t hi ht => o (i + 1) t (by omega) (by simpa using ht)]
/-- the pattern, its hole filled again -/
theorem subst_repl {s : Sub} {n : Int} : ∀ {p : List Nat} {t x : Tm}, t.sub p = some x → s.lookup n = some x → (∀ m : Int, (.inl m : Key) ∈ t.syms → s.lookup m = some (.v m) ∨ s.lookup m = none) → (t.repl p (.v n)).subst s = t
  | [], t, x, h, hx, _ => by
    cases h
    rw [show t.repl [] (.v n) = .v n by cases t <;> rfl]
    show (s.lookup n).getD (.v n) = t
    rw [hx]
    rfl
  | k :: r, t, x, h, hx, hs => by
    have h' : (t.arg k).bind (·.sub r) = some x := h
    cases q : t.arg k with
    | none => rw [q] at h'; cases h'
    | some u =>
      rw [q] at h'
      cases t with
      | v n => cases q
      | a f as =>
        cases k with
        | zero => cases q
        | succ k =>
          have q' : as[k]? = some u := q
          show Tm.a f (Tm.substs s (as.modify k fun t => t.repl r (.v n))) = _
          rw [substs_modify q' (subst_repl (p := r) h' hx fun m hm => hs m (syms_args q' hm)) fun i t _ ht => subst_id fun m hm => hs m (syms_args ht hm)]
/-- what a replaced term holds: the new one, where the position is one -/
theorem syms_repl_in {k : Key} : ∀ {p : List Nat} {t x u : Tm}, t.sub p = some x → k ∈ u.syms → k ∈ (t.repl p u).syms
  | [], t, x, u, _, h => by rw [show t.repl [] u = u by cases t <;> rfl]; exact h
  | j :: r, t, x, u, e, h => by
    have e' : (t.arg j).bind (·.sub r) = some x := e
    cases q : t.arg j with
    | none => rw [q] at e'; cases e'
    | some v =>
      rw [q] at e'
      cases t with
      | v n => cases q
      | a f as =>
        cases j with
        | zero => cases q
        | succ j =>
          have q' : as[j]? = some v := q
          have e2 : (as.modify j fun t => t.repl r u)[j]? = some (v.repl r u) := by rw [List.getElem?_modify_eq, q']; rfl
          exact syms_args (f := f) e2 (syms_repl_in (p := r) e' h)
theorem depth_repl_at {u : Tm} : ∀ {p : List Nat} {t x : Tm}, t.sub p = some x → (t.repl p u).depth ≤ max t.depth (p.length + u.depth)
  | [], t, x, _ => by
    rw [show t.repl [] u = u by cases t <;> rfl]
    simp
    omega
  | k :: r, t, x, h => by
    have h' : (t.arg k).bind (·.sub r) = some x := h
    cases q : t.arg k with
    | none => rw [q] at h'; cases h'
    | some v =>
      rw [q] at h'
      cases t with
      | v n => cases q
      | a f as =>
        cases k with
        | zero => cases q
        | succ k =>
          have q' : as[k]? = some v := q
          have ih := depth_repl_at (u := u) (p := r) h'
          have key : ∀ (ts : List Tm) (m : Nat), ts[m]? = some v → Tm.depths (ts.modify m fun t => t.repl r u) ≤ max (Tm.depths ts) (r.length + u.depth) := by
            intro ts
            induction ts with
            | nil => intro m h; simp at h
            | cons a ts ih2 =>
              intro m hm
              cases m with
              | zero =>
                simp at hm
                subst hm
                simp only [List.modify_zero_cons, Tm.depths]
                omega
              | succ m =>
                have := ih2 m (by simpa using hm)
                simp only [List.modify_succ_cons, Tm.depths]
                omega
          have := key as k q'
          show 1 + Tm.depths (as.modify k fun t => t.repl r u) ≤ max (1 + Tm.depths as) ((r.length + 1) + u.depth)
          omega
theorem step_ok {G : List Eqn} {E : List Stg} {s : Stp} {e : Eqn} {t x : Tm} (h1 : namedAt G E s.giv s.idx = some e) (h2 : bindsB s.sub e.1 e.2 = true) (h3 : t.sub s.pos = some x) (h4 : x = (sideO e s.fwd).subst s.sub)
    (h5 : (t.repl s.pos ((sideO e !s.fwd).subst s.sub)).wide = false) : stepTm G E t s = some (t.repl s.pos ((sideO e !s.fwd).subst s.sub)) := by
  unfold stepTm
  rw [h1]
  dsimp only
  rw [if_pos h2, h3]
  dsimp only
  rw [if_pos h4, if_neg (by rw [h5]; decide)]
theorem not_wide {t : Tm} (h1 : t.depth ≤ 120) (h2 : t.size ≤ 4000) : t.wide = false := by
  unfold Tm.wide
  rw [decide_eq_false (by omega), decide_eq_false (by omega)]
  rfl
theorem visit_snoc {G : List Eqn} {E : List Stg} {s : Stp} : ∀ {ss : List Stp} {t : Tm}, visit G E t (ss ++ [s]) = (visit G E t ss).bind fun u => stepTm G E u s
  | [], t => by
    show (stepTm G E t s).bind (fun u => visit G E u []) = stepTm G E t s
    cases stepTm G E t s <;> rfl
  | x :: ss, t => by
    show (stepTm G E t x).bind (fun u => visit G E u (ss ++ [s])) = ((stepTm G E t x).bind fun u => visit G E u ss).bind _
    cases stepTm G E t x with
    | none => rfl
    | some u => exact visit_snoc
/-- a short list out of the four variables -/
theorem four {ns : List Int} (nd : ns.Nodup) (h : ∀ n ∈ ns, n ∈ ([0, 1, 2, 9] : List Int)) : ns.length ≤ 4 := by
  have key : ∀ {xs ys : List Int}, xs.Nodup → (∀ n ∈ xs, n ∈ ys) → xs.length ≤ ys.length := by
    intro xs
    induction xs with
    | nil => intro ys _ _; exact Nat.zero_le _
    | cons x xs ih =>
      intro ys hn hs
      obtain ⟨h1, h2⟩ := List.nodup_cons.mp hn
      have hx := hs x List.mem_cons_self
      have := ih (ys := ys.erase x) h2 fun n hm => (List.mem_erase_of_ne (fun e : n = x => h1 (by rw [← e]; exact hm))).mpr (hs n (List.mem_cons_of_mem _ hm))
      rw [List.length_erase_of_mem hx] at this
      have h3 : 0 < ys.length := List.length_pos_of_mem hx
      rw [List.length_cons]
      omega
  exact key nd h
end K65
namespace K65
open PySem PySem.Spec PyProof.Rows L2
/-! ### _law_pattern -/
theorem lookup_self {ns : List Int} {n : Int} (h : n ∈ ns) : List.lookup n (ns.map fun n => (n, Tm.v n)) = some (.v n) := by
  induction ns with
  | nil => cases h
  | cons m ns ih =>
    by_cases e : n = m
    · subst e; simp [List.lookup]
    · have e1 : (n == m) = false := by simpa using e
      simp only [List.map_cons, List.lookup, e1]
      exact ih ((List.mem_cons.mp h).resolve_left e)
theorem lookup_none' {s : Sub} {n : Int} (h : n ∉ s.map (·.1)) : s.lookup n = none := by
  induction s with
  | nil => rfl
  | cons p r ih =>
    obtain ⟨m, t⟩ := p
    have e : n ≠ m := fun z => h (by rw [z]; exact List.mem_cons_self)
    have e1 : (n == m) = false := by simpa using e
    simp only [List.lookup, e1]
    exact ih fun z => h (List.mem_cons_of_mem _ z)
theorem IsSub.snoc {H : Hp} {n : Int} {t : Tm} {x : V} (ht : IsTm H t x) : ∀ {b : Sub} {kvs : List (Key × V)}, IsSub H b kvs → IsSub H (b ++ [(n, t)]) (kvs ++ [((.inl n : Key), x)])
  | [], kvs, h => by rw [show kvs = [] from h]; exact ⟨x, [], rfl, ht, rfl⟩
  | (m, u) :: r, kvs, h => by
    obtain ⟨y, q, rfl, h1, h2⟩ := h
    exact ⟨y, q ++ [_], rfl, h1, h2.snoc ht⟩
theorem IsSub.len {H : Hp} : ∀ {b : Sub} {kvs : List (Key × V)}, IsSub H b kvs → kvs.length = b.length
  | [], kvs, h => by rw [show kvs = [] from h]; rfl
  | (m, u) :: r, kvs, h => by
    obtain ⟨y, q, rfl, h1, h2⟩ := h
    exact congrArg Nat.succ h2.len
theorem IsSub.out {H : Hp} {b : Sub} {kvs : List (Key × V)} {n : Int} (h : IsSub H b kvs) (hn : n ∉ b.map (·.1)) : valV kvs (.inl n : Key) = none := by
  rcases h.get (n := n) with ⟨_, z⟩ | ⟨t, x, z, _⟩
  · exact z
  · rw [lookup_none' hn] at z; cases z
/-- a new key in the dict at d -/
theorem sub_put {H : Hp} {d : Addr} {b : Sub} {kvs : List (Key × V)} {n : Int} {t : Tm} {x : V} (hd : H d = some (.dK kvs)) (h : IsSub H b kvs) (hn : n ∉ b.map (·.1)) (ht : IsTm H t x) :
    IsSub (upd H d (.dK (putK kvs (.inl n : Key) x))) (b ++ [(n, t)]) (putK kvs (.inl n : Key) x) := by
  have tt : Tups H (upd H d (.dK (putK kvs (.inl n : Key) x))) := (Tups.refl _).mut hd fun _ z => by cases z
  have e : putK kvs (.inl n : Key) x = kvs ++ [((.inl n : Key), x)] := putK_new x (h.out hn)
  have z := (h.mono tt).snoc (n := n) (ht.mono tt)
  rwa [← e] at z
theorem tups_dk {H : Hp} {d : Addr} {kvs : List (Key × V)} {o : HO} (hd : H d = some (.dK kvs)) : Tups H (upd H d o) := (Tups.refl _).mut hd fun _ z => by cases z
/-- the binding of a pattern: 9 to what stood there, the others to themselves -/
structure PatSub (t : Tm) (pos : List Nat) (u : Tm) (s : Sub) : Prop where
  sub : t.sub pos = some u
  nd : (s.map (·.1)).Nodup
  mem : ∀ n : Int, n ∈ s.map (·.1) ↔ (.inl n : Key) ∈ (t.repl pos (.v 9)).syms
  nine : s.lookup 9 = some u
  other : ∀ n : Int, n ≠ 9 → n ∈ s.map (·.1) → s.lookup n = some (.v n)
  vals : ∀ p ∈ s, p.2 = u ∨ p.2 = .v p.1 ∧ p.1 ≠ 9
def patSub (u : Tm) (vs : List Int) : Sub := (9, u) :: ((vs.filter fun n => decide (n ≠ 9)).map fun n => (n, Tm.v n))
theorem patSub_keys {u : Tm} {vs : List Int} : (patSub u vs).map (·.1) = 9 :: vs.filter fun n => decide (n ≠ 9) := by
  unfold patSub
  rw [List.map_cons, List.map_map]
  congr 1
  exact List.map_id _
theorem patSub_ok {t u : Tm} {pos : List Nat} {vs : List Int} (hu : t.sub pos = some u) (lv : LV (t.repl pos (.v 9)) vs) : PatSub t pos u (patSub u vs) := by
  refine ⟨hu, ?_, fun n => ?_, by simp [patSub, List.lookup], fun n hn hm => ?_, fun p hp => ?_⟩
  · rw [patSub_keys]
    refine List.nodup_cons.mpr ⟨fun z => ?_, lv.nd.filter _⟩
    simpa using (List.mem_filter.mp z).2
  · rw [patSub_keys, List.mem_cons, List.mem_filter, lv.mem]
    constructor
    · rintro (z | z)
      · rw [z]; exact syms_repl_in hu (by simp [Tm.syms])
      · exact z.1
    · intro z
      by_cases e : n = 9
      · exact .inl e
      · exact .inr ⟨z, by simpa using e⟩
  · rw [patSub_keys] at hm
    have e1 : (n == (9 : Int)) = false := by simpa using hn
    have hm' := (List.mem_cons.mp hm).resolve_left hn
    unfold patSub
    simp only [List.lookup, e1]
    exact lookup_self hm'
  · rcases List.mem_cons.mp hp with e | hp
    · rw [e]; exact .inl rfl
    · obtain ⟨n, hn, rfl⟩ := List.mem_map.mp hp
      exact .inr ⟨rfl, by simpa using (List.mem_filter.mp hn).2⟩
section
variable {P : Program} {w : World} {K : PySem.W.Frag} {mg : Str → Option Value} {base : Heap}
@[irreducible] def spPat : Sp := fun vs H Q _ => ∃ a sc t x q ps ws, vs = [.ref a, x, .ref q] ∧ St a sc H ∧ IsTm H t x ∧ t.depth ≤ 9 ∧ t.size ≤ 2200 ∧ q ≠ a ∧ H q = some (.lst ws) ∧ A2 (IsPos H) ps ws ∧ ps ≠ [] ∧ ps.length ≤ t.size ∧ (∀ pos ∈ ps, t.sub pos ≠ none) ∧
  ∀ p x' d kvs pos u s H', H' p = some (.tup [x', .ref d]) → IsTm H' (t.repl pos (.v 9)) x' → H d = none → H' d = some (.dK kvs) → IsSub H' s kvs → PatSub t pos u s → s.length ≤ 3000 → Fr [a] H H' → St a sc H' → Q (.ref p) H'
theorem spPat.i {H : Hp} {Q : VK} {E : XK} {a sc q : Addr} {t : Tm} {x : V} {ps : List (List Nat)} {ws : List V} (h1 : St a sc H) (h2 : IsTm H t x) (h3 : t.depth ≤ 9) (h4 : t.size ≤ 2200) (h5 : q ≠ a) (h6 : H q = some (.lst ws)) (h7 : A2 (IsPos H) ps ws) (h8 : ps ≠ []) (h9 : ps.length ≤ t.size) (h10 : ∀ pos ∈ ps, t.sub pos ≠ none)
    (k : ∀ p x' d kvs pos u s H', H' p = some (.tup [x', .ref d]) → IsTm H' (t.repl pos (.v 9)) x' → H d = none → H' d = some (.dK kvs) → IsSub H' s kvs → PatSub t pos u s → s.length ≤ 3000 → Fr [a] H H' → St a sc H' → Q (.ref p) H') : spPat [.ref a, x, .ref q] H Q E := by
  unfold spPat
  exact ⟨a, sc, t, x, q, ps, ws, rfl, h1, h2, h3, h4, h5, h6, h7, h8, h9, h10, k⟩
theorem c_pattern (T : TopF K mg) : Cal P w K mg base CX0 14 "_law_pattern" ["_law_state_here", "_law_term_here", "_law_places"] spPat := by
  refine k_L_pattern T (fun vs H Q E h => by unfold spPat at h; obtain ⟨_, _, _, _, _, _, _, rfl, _⟩ := h; rfl) (fun cdv A outer s H vs Q E hr h => ?_)
  unfold spPat at h
  obtain ⟨a, sc, t, x, q, ps, ws, rfl, hst, ht, hd, hz, hqa, hq, hps, hne, hpl, hpv, k⟩ := h
  refine ⟨_, pss_cons (ps_set (i := 3) sc_L_pattern.nd rfl (Or.inl rfl) (pe_ix ix_list (pv 2) (pe_cal (c_draw T) (hr.mono (by omega)) rfl pass0 (pa_cons (pv 0) (pa_cons (pe_callB call_len rfl T.z_len (by decide +kernel) (pa_cons (pv 2) pa_nil)) pa_nil))) (fun _ _ => rfl)))
    (pss_cons (ps_set (i := 4) sc_L_pattern.nd rfl (Or.inl rfl) (pe_cal (c_lrepl T 13) hr rfl pass0 (pa_cons (pv 1) (pa_cons (pv 3) (pa_cons pe_int pa_nil)))))
    (pss_cons (ps_set (i := 5) sc_L_pattern.nd rfl (Or.inl rfl) (pe_disp (pps_cons pe_int (pe_cal (c_lsub T) (hr.mono (by omega)) rfl pass0 (pa_cons (pv 1) (pa_cons (pv 3) pa_nil))) pps_nil) rfl rfl (fun z => by cases z) (by decide)))
    (pss_cons (ps_for PassesOwn.never rfl (pi_list (pe_cal (c_lvars T 13) hr rfl pass0 (pa_cons (pv 4) pa_nil))) (pg_name (i := 6) sc_L_pattern.nd rfl (Or.inl rfl))
      (pss_one (ps_if (pt_cmpR op_ne (pv 6) pe_int (nomark _)) (pss_one (ps_dput (hu_of hr) (pv 5) (pv 6) (pv 6) rfl)) pss_nil)))
    (pss_one (ps_ret (pe_tup (pa_cons (pv 4) (pa_cons (pv 5) pa_nil)))))))), ?_⟩
  have hwl := hps.len
  have hpos : 0 < ps.length := List.length_pos_iff.mpr hne
  refine rd_let (rd_ixL (rd_var rfl (rd_call2 (rd_var rfl (rd_B1 (rd_var rfl ⟨_, _, rfl, .inl ⟨_, sql hq, rfl⟩, spDraw.i (by omega) (by omega) hst fun n H1 hn f1 s1 => ?_⟩))))))
  have t1 := tups_st hst f1
  have hq1 : H1 q = some (.lst ws) := f1.keep (fun z => hqa (List.mem_singleton.mp z)) hq
  have hn' : n < ps.length := by omega
  obtain ⟨v, hv, ⟨r, rfl, hr'⟩⟩ := (hps.poss t1).nth (List.getElem?_eq_getElem hn')
  have hsub := hpv _ (List.getElem_mem hn')
  generalize ps[n] = pos at hr' hsub
  obtain ⟨u, hu⟩ := Option.ne_none_iff_exists'.mp hsub
  have hdu := sub_depth hu
  have upos := u.depth_pos
  refine ⟨q, ws, _, _, rfl, rfl, sql hq1, atI_nat hv, rd_let (rd_call3 (rd_var rfl (rd_var rfl (rd_c (spRepl.i (u := .v 9) (by omega) (by omega) (ht.mono t1) hr' rfl hsub fun pat H2 s2 hpat => ?_)))))⟩
  refine rd_let ?_
  show ∀ d, H2 d = none → _
  intro d nd
  have s3 : Same H2 (upd H2 d (.dK [])) := Same.new nd _
  have s23 := s2.trans s3
  refine rd_c (rd_call2 (rd_var rfl (rd_var rfl (spLSub.i (ht.mono (t1.trans (Tups.same s23))) (s23 _ _ hr') hu fun yu hyu => ⟨upd_same, [((.inl (9 : Int) : Key), yu)], rfl, Nat.le_of_ble_eq_true rfl, ?_⟩))))
  have st2 := s1.mono s2
  obtain ⟨da, ds⟩ := st2.ne nd
  have dH : H d = none := hst.fresh f1 s1 (s2.free nd)
  have em : mergeK [] [((.inl (9 : Int) : Key), yu)] = [((.inl (9 : Int) : Key), yu)] := rfl
  rw [em]
  have f4 : Fr [a] H (upd (upd H2 d (.dK [])) d (.dK [((.inl (9 : Int) : Key), yu)])) := ((f1.trans (Fr.of s2)).trans (Fr.new nd)).mut (no_none dH)
  have st4 : St a sc (upd (upd H2 d (.dK [])) d (.dK [((.inl (9 : Int) : Key), yu)])) := (st2.upd da ds).upd da ds
  have tt4 : Tups (upd H2 d (.dK [])) (upd (upd H2 d (.dK [])) d (.dK [((.inl (9 : Int) : Key), yu)])) := tups_dk upd_same
  have hpat4 : IsTm (upd (upd H2 d (.dK [])) d (.dK [((.inl (9 : Int) : Key), yu)])) (t.repl pos (.v 9)) pat := hpat.mono ((Tups.same s3).trans tt4)
  have hd4 : (upd (upd H2 d (.dK [])) d (.dK [((.inl (9 : Int) : Key), yu)])) d = some (.dK [((.inl (9 : Int) : Key), yu)]) := upd_same
  have hs4 : IsSub (upd (upd H2 d (.dK [])) d (.dK [((.inl (9 : Int) : Key), yu)])) (patSub u []) [((.inl (9 : Int) : Key), yu)] := ⟨yu, [], rfl, hyu.mono tt4, rfl⟩
  generalize upd (upd H2 d (.dK [])) d (.dK [((.inl (9 : Int) : Key), yu)]) = H4 at f4 st4 hpat4 hd4 hs4
  have pz := size_repl (u := .v 9) pos t
  have pd := depth_repl (u := .v 9) pos t
  have pz1 : (t.repl pos (.v 9)).size ≤ t.size + 1 := pz
  have pd1 : (t.repl pos (.v 9)).depth ≤ t.depth + 1 := pd
  refine rd_seq (rd_for (rd_iList (rd_call1 (rd_var rfl (spLVars.i hpat4 (by omega) (by omega) fun b ns H5 nb s5 hb lv => ⟨b, rfl, ⟨_, sql hb⟩, ?_⟩)))))
  have hbd : b ≠ d := fun z => by rw [z, hd4] at nb; cases nb
  have hll := lv.len
  refine for_list (K := K) (a := b) (xs := ns.map V.int) (fun j σ H' => ∃ z6 kvs, σ = [some (.ref a), some x, some (.ref q), some (.ref r), some pat, some (.ref d), z6] ∧ Fr [a] H H' ∧ St a sc H' ∧ H' b = some (.lst (ns.map V.int)) ∧ H' d = some (.dK kvs) ∧ IsSub H' (patSub u (ns.take j)) kvs ∧ IsTm H' (t.repl pos (.v 9)) pat)
    ⟨_, _, rfl, f4.trans (Fr.of s5), st4.mono s5, hb, s5 _ _ hd4, hs4.mono (Tups.same s5), hpat4.mono (Tups.same s5)⟩ (fun j σ H' _ hh => ?_) ?_ ?_
  · obtain ⟨z6, kvs, rfl, _, _, c3, _⟩ := hh
    exact sql c3
  · rintro j y σ H6 hj ⟨z6, kvs, rfl, c1, c2, c3, c4, c5, c6⟩
    obtain ⟨m, hm, rfl⟩ : ∃ m, ns[j]? = some m ∧ y = .int m := by
      rw [List.getElem?_map] at hj
      cases e : ns[j]? with
      | none => rw [e] at hj; cases hj
      | some m => rw [e] at hj; exact ⟨m, rfl, (Option.some.inj hj).symm⟩
    have tk := take_succ' hm
    have hjl := (List.getElem?_eq_some_iff.mp hm).1
    refine rd_name (rd_if (rd_test (rd_op (rd_var rfl ⟨rfl, _, rfl, ?_⟩))))
    by_cases e : m = 9
    · subst e
      rw [decide_eq_true rfl]
      refine iteF (rd_next ⟨_, kvs, rfl, c1, c2, c3, c4, ?_, c6⟩)
      rw [tk]
      unfold patSub at c5 ⊢
      rw [List.filter_append]
      simpa using c5
    · rw [decide_eq_false (fun z => e (V.int.inj z))]
      have hnew : m ∉ (patSub u (ns.take j)).map (·.1) := by
        rw [patSub_keys, List.mem_cons, List.mem_filter]
        rintro (z | z)
        · exact e z
        · have h1 := lv.nd
          rw [← List.take_append_drop j ns] at h1
          refine (List.nodup_append.mp h1).2.2 _ z.1 m ?_ rfl
          rw [List.drop_eq_getElem_cons hjl, (List.getElem?_eq_some_iff.mp hm).2]
          exact List.mem_cons_self
      have hkl := c5.len
      have hpl2 : (patSub u (ns.take j)).length ≤ 1 + ns.length := by
        unfold patSub
        rw [List.length_cons, List.length_map]
        have h1 := List.length_filter_le (fun n : Int => decide (n ≠ 9)) (ns.take j)
        rw [List.length_take] at h1
        omega
      refine iteT (rd_dput (rd_var rfl (rd_var rfl (rd_var rfl ⟨d, _, rfl, DPut.k (k := (.inl m : Key)) c4 (by rw [hkl, sizeLine_eq]; omega), _, _, rfl, c1.mut (no_none dH), c2.upd da ds, by rw [upd_ne hbd]; exact c3, upd_same, ?_, c6.mono (tups_dk c4)⟩))))
      have z := sub_put (n := m) (t := .v m) (x := .int m) c4 c5 hnew rfl
      have ee : patSub u (ns.take (j + 1)) = patSub u (ns.take j) ++ [(m, .v m)] := by
        rw [tk]
        unfold patSub
        rw [List.filter_append]
        simp [e]
      rw [ee]
      exact z
  · rintro σ H6 ⟨z6, kvs, rfl, c1, c2, c3, c4, c5, c6⟩
    rw [List.length_map, List.take_length] at c5
    refine rd_nx (rd_ret (rd_tup (rd_cons2 (rd_var rfl (rd_var rfl ⟨ln_ok, fun p np => ?_⟩)))))
    have s7 : Same H6 (upd H6 p (.tup [pat, .ref d])) := Same.new np _
    have hpl2 : (patSub u ns).length ≤ 1 + ns.length := by
      unfold patSub
      rw [List.length_cons, List.length_map]
      have h1 := List.length_filter_le (fun n : Int => decide (n ≠ 9)) ns
      omega
    exact k p pat d kvs pos u (patSub u ns) _ upd_same (c6.mono (Tups.same s7)) dH (s7 _ _ c4) (c5.mono (Tups.same s7)) (patSub_ok hu lv) (by omega) (c1.trans (Fr.of s7)) (c2.mono s7)
end
end K65
namespace K65
open PySem PySem.Spec PyProof.Rows L2
/-! ### the drawn step applies, and stays within bounds -/
theorem tm_pos (t : Tm) : 1 ≤ t.size := by cases t <;> simp [Tm.size] <;> omega
theorem size_repl_at {u : Tm} : ∀ {p : List Nat} {t x : Tm}, t.sub p = some x → (t.repl p u).size + x.size = t.size + u.size
  | [], t, x, h => by
    cases h
    rw [show t.repl [] u = u by cases t <;> rfl]
    omega
  | k :: r, t, x, h => by
    have h' : (t.arg k).bind (·.sub r) = some x := h
    cases q : t.arg k with
    | none => rw [q] at h'; cases h'
    | some v =>
      rw [q] at h'
      cases t with
      | v n => cases q
      | a f as =>
        cases k with
        | zero => cases q
        | succ k =>
          have q' : as[k]? = some v := q
          have ih := size_repl_at (u := u) (p := r) h'
          have key : ∀ (ts : List Tm) (m : Nat), ts[m]? = some v → Tm.sizes (ts.modify m fun t => t.repl r u) + x.size = Tm.sizes ts + u.size := by
            intro ts
            induction ts with
            | nil => intro m h; simp at h
            | cons a ts ih2 =>
              intro m hm
              cases m with
              | zero =>
                simp at hm
                subst hm
                simp only [List.modify_zero_cons, Tm.sizes]
                omega
              | succ m =>
                have := ih2 m (by simpa using hm)
                simp only [List.modify_succ_cons, Tm.sizes]
                omega
          have := key as k q'
          show 1 + Tm.sizes (as.modify k fun t => t.repl r u) + x.size = (1 + Tm.sizes as) + u.size
          omega
mutual
theorem subst_congr {s s' : Sub} : ∀ {t : Tm}, (∀ n : Int, (.inl n : Key) ∈ t.syms → s.lookup n = s'.lookup n) → t.subst s = t.subst s'
  | .v n, h => by
    show (s.lookup n).getD (.v n) = (s'.lookup n).getD (.v n)
    rw [h n (by simp [Tm.syms])]
  | .a f as, h => by
    show Tm.a f (Tm.substs s as) = Tm.a f (Tm.substs s' as)
    rw [substs_congr (ts := as) fun n hn => h n (List.mem_cons_of_mem _ hn)]
theorem substs_congr {s s' : Sub} : ∀ {ts : List Tm}, (∀ n : Int, (.inl n : Key) ∈ Tm.symss ts → s.lookup n = s'.lookup n) → Tm.substs s ts = Tm.substs s' ts
  | [], _ => rfl
  | t :: r, h => by
    show t.subst s :: Tm.substs s r = _ :: _
    rw [subst_congr (t := t) fun n hn => h n (List.mem_append.mpr (.inl hn)), substs_congr (ts := r) fun n hn => h n (List.mem_append.mpr (.inr hn))]
end
mutual
theorem var_subst {s : Sub} {n : Int} : ∀ {t : Tm}, (.inl n : Key) ∈ (t.subst s).syms → ((.inl n : Key) ∈ t.syms ∧ s.lookup n = none) ∨ ∃ p ∈ s, (.inl n : Key) ∈ p.2.syms
  | .v m, h => by
    have h : (.inl n : Key) ∈ ((s.lookup m).getD (.v m)).syms := h
    cases e : s.lookup m with
    | none =>
      rw [e] at h
      have h' : (.inl n : Key) ∈ [(.inl m : Key)] := h
      have hm := Sum.inl.inj (List.mem_singleton.mp h')
      subst hm
      exact .inl ⟨h', e⟩
    | some u => rw [e] at h; exact .inr ⟨_, lookup_mem' e, h⟩
  | .a f as, h => by
    rcases List.mem_cons.mp h with e | h
    · cases e
    · rcases vars_substs h with h | h
      · exact .inl ⟨List.mem_cons_of_mem _ h.1, h.2⟩
      · exact .inr h
theorem vars_substs {s : Sub} {n : Int} : ∀ {ts : List Tm}, (.inl n : Key) ∈ Tm.symss (Tm.substs s ts) → ((.inl n : Key) ∈ Tm.symss ts ∧ s.lookup n = none) ∨ ∃ p ∈ s, (.inl n : Key) ∈ p.2.syms
  | [], h => by cases h
  | t :: r, h => by
    rcases List.mem_append.mp h with h | h
    · rcases var_subst h with h | h
      · exact .inl ⟨List.mem_append.mpr (.inl h.1), h.2⟩
      · exact .inr h
    · rcases vars_substs h with h | h
      · exact .inl ⟨List.mem_append.mpr (.inr h.1), h.2⟩
      · exact .inr h
end
/-- the four variables -/
abbrev v4 : List Int := [0, 1, 2, 9]
def In4 (t : Tm) : Prop := ∀ n : Int, (.inl n : Key) ∈ t.syms → n ∈ v4
theorem Drawn.in4 {ops : List Op} {t : Tm} (h : Drawn ops 3 t) : In4 t := fun n hn => by
  have := h.vs n hn
  have e : n = 0 ∨ n = 1 ∨ n = 2 := by omega
  rcases e with e | e | e <;> subst e <;> decide
theorem Drawn.no9 {ops : List Op} {t : Tm} (h : Drawn ops 3 t) : (.inl (9 : Int) : Key) ∉ t.syms := fun hn => by
  have := h.vs 9 hn
  omega
theorem drawn_of {ops : List Op} {t : Tm} (h : In4 t) (h9 : (.inl (9 : Int) : Key) ∉ t.syms) (hf : t.ofs (ops.map (·.1))) : Drawn ops 3 t := by
  refine ⟨fun n hn => ?_, hf⟩
  have := h n hn
  simp at this
  rcases this with e | e | e | e
  · subst e; decide
  · subst e; decide
  · subst e; decide
  · subst e; exact absurd hn h9
theorem lim_of {ops : List Op} (g : GoodOps ops) {t : Tm} (h1 : t.depth ≤ 12) (h2 : t.size ≤ 2500) (h3 : In4 t) (h4 : t.ofs (ops.map (·.1))) : Lim t := by
  refine ⟨h1, h2, fun f hf => ?_, Nat.le_trans (four t.vars_nd fun n hn => h3 n (Tm.mem_vars.mp hn)) (by decide)⟩
  obtain ⟨o, ho, e⟩ := List.mem_map.mp (h4 f hf)
  rw [← e]
  exact (g.nm o ho).strOk
theorem Drawn.sub {ops : List Op} {c : Nat} {t u : Tm} {p : List Nat} (h : Drawn ops c t) (e : t.sub p = some u) : Drawn ops c u :=
  ⟨fun n hn => h.vs n (syms_sub e hn), fun f hf => h.fs f (syms_sub e hf)⟩
theorem in4_repl {p : List Nat} {t u : Tm} (h : In4 t) (h' : In4 u) : In4 (t.repl p u) := fun n hn => (syms_repl hn).elim (h n) (h' n)
theorem ofs_repl {fs : List Str} {p : List Nat} {t u : Tm} (h : t.ofs fs) (h' : u.ofs fs) : (t.repl p u).ofs fs := fun f hf => (syms_repl hf).elim (h f) (h' f)
theorem in4_9 : In4 (.v 9) := fun n hn => by
  rcases List.mem_cons.mp hn with e | e
  · rw [Sum.inl.inj e]; decide
  · cases e
theorem ofs_v {fs : List Str} {n : Int} : (Tm.v n).ofs fs := fun f hf => by
  rcases List.mem_cons.mp hf with e | e
  · cases e
  · cases e
structure DStep (ops : List Op) (t : Tm) (b : Bool) (i : Nat) (e : Eqn) (st : Stp) (u : Tm) : Prop where
  giv : st.giv = b
  idx : st.idx = i
  ok : ∀ G E, namedAt G E b i = some e → stepTm G E t st = some u
  ge : GoodEq e
  gs : GoodStp st
  i1 : In4 e.1
  i2 : In4 e.2
  f1 : e.1.ofs (ops.map (·.1))
  f2 : e.2.ofs (ops.map (·.1))
  dep : u.depth ≤ t.depth + 3
  siz : u.size ≤ 5 * t.size + 12
  dr : Drawn ops 3 u
theorem lookup_app {s x : Sub} {n : Int} (h : n ∈ s.map (·.1)) : (s ++ x).lookup n = s.lookup n := by
  induction s with
  | nil => cases h
  | cons p r ih =>
    obtain ⟨m, t⟩ := p
    by_cases e : n = m
    · subst e; simp [List.lookup]
    · have e1 : (n == m) = false := by simpa using e
      simp only [List.cons_append, List.lookup, e1]
      exact ih ((List.mem_cons.mp h).resolve_left e)
theorem lookup_in {s : Sub} {n : Int} (h : n ∈ s.map (·.1)) : s.lookup n ≠ none := by
  induction s with
  | nil => cases h
  | cons p r ih =>
    obtain ⟨m, t⟩ := p
    by_cases e : n = m
    · subst e; simp [List.lookup]
    · have e1 : (n == m) = false := by simpa using e
      simp only [List.lookup, e1]
      exact ih ((List.mem_cons.mp h).resolve_left e)
structure NewTm (ops : List Op) (t : Tm) : Prop where
  d : t.depth ≤ 2
  z : t.size ≤ 4
  i : In4 t
  f : t.ofs (ops.map (·.1))
theorem dstep_make {ops : List Op} (g : GoodOps ops) {t inner w new : Tm} {pos pos2 : List Nat} {s0 ext : Sub} (ht : Drawn ops 3 t) (hd : t.depth ≤ 9) (hz : t.size ≤ 400) (hi : t.sub pos = some inner) (hp : PatSub inner pos2 w s0) (hn : NewTm ops new)
    (nd : ((s0 ++ ext).map (·.1)).Nodup) (k1 : ∀ n ∈ ext.map (·.1), (.inl n : Key) ∈ new.syms) (k2 : ∀ n : Int, (.inl n : Key) ∈ new.syms → n ∈ (s0 ++ ext).map (·.1)) (kv : ∀ p ∈ ext, Drawn ops 3 p.2 ∧ p.2.depth ≤ 2 ∧ p.2.size ≤ 4) (b : Bool) (i : Nat) (fw : Bool) :
    DStep ops t b i (if fw = true then (inner.repl pos2 (.v 9), new) else (new, inner.repl pos2 (.v 9))) ⟨b, i, fw, pos, s0 ++ ext⟩ (t.repl pos (new.subst (s0 ++ ext))) := by
  have di := ht.sub hi
  have dw := di.sub hp.sub
  have hdi := sub_depth hi
  have hzi := sub_size hi
  have hdw := sub_depth hp.sub
  have hzw := sub_size hp.sub
  have ip := inner.depth_pos
  have in4i := di.in4
  have o4 : In4 (inner.repl pos2 (.v 9)) := in4_repl in4i in4_9
  have of' : (inner.repl pos2 (.v 9)).ofs (ops.map (·.1)) := ofs_repl di.fs ofs_v
  have od := depth_repl_at (u := .v 9) hp.sub
  have wp := w.depth_pos
  have od' : (inner.repl pos2 (.v 9)).depth ≤ t.depth := by
    have e : (Tm.v 9).depth = 1 := rfl
    rw [e] at od
    omega
  have oz := size_repl_at (u := .v 9) hp.sub
  have oz' : (inner.repl pos2 (.v 9)).size ≤ t.size := by
    have e : (Tm.v 9).size = 1 := rfl
    have := tm_pos w
    rw [e] at oz
    omega
  have key4 : ∀ n ∈ s0.map (·.1), n ∈ v4 := fun n hn => o4 n ((hp.mem n).mp hn)
  -- the values
  have vals : ∀ p ∈ s0 ++ ext, Drawn ops 3 p.2 ∧ p.2.depth ≤ inner.depth + 1 ∧ p.2.size ≤ t.size + 3 := fun p hm => by
    have tp := tm_pos t
    rcases List.mem_append.mp hm with h | h
    · rcases hp.vals p h with e | ⟨e, e9⟩
      · rw [e]; exact ⟨dw, by omega, by omega⟩
      · rw [e]
        refine ⟨Drawn.var ?_ ?_, by show 1 ≤ _; omega, by show 1 ≤ _; omega⟩
        all_goals
          have := key4 p.1 (List.mem_map.mpr ⟨p, h, rfl⟩)
          simp at this
          omega
    · obtain ⟨h1, h2, h3⟩ := kv p h
      exact ⟨h1, by omega, by omega⟩
  have lim : ∀ p ∈ s0 ++ ext, Lim p.2 := fun p hm => by
    obtain ⟨h1, h2, h3⟩ := vals p hm
    exact lim_of g (by omega) (by omega) h1.in4 h1.fs
  have len : (s0 ++ ext).length ≤ 60 := by
    have := four nd fun n hn2 => by
      rw [List.map_append] at hn2
      rcases List.mem_append.mp hn2 with h | h
      · exact key4 n h
      · exact hn.i n (k1 n h)
    rw [List.length_map] at this
    omega
  have h9 : (.inl (9 : Int) : Key) ∉ inner.syms := di.no9
  -- the pattern fits
  have fit : (inner.repl pos2 (.v 9)).subst (s0 ++ ext) = inner := by
    rw [subst_congr (s' := s0) fun n hn2 => lookup_app ((hp.mem n).mpr hn2)]
    refine subst_repl hp.sub hp.nine fun m hm => ?_
    have hm9 : m ≠ 9 := fun e => h9 (e ▸ hm)
    by_cases hk : m ∈ s0.map (·.1)
    · exact .inl (hp.other m hm9 hk)
    · exact .inr (lookup_none' hk)
  have keys : ∀ n : Int, n ∈ (s0 ++ ext).map (·.1) ↔ (.inl n : Key) ∈ (inner.repl pos2 (.v 9)).syms ∨ (.inl n : Key) ∈ new.syms := fun n => by
    constructor
    · intro h
      rw [List.map_append] at h
      rcases List.mem_append.mp h with h | h
      · exact .inl ((hp.mem n).mp h)
      · exact .inr (k1 n h)
    · rintro (h | h)
      · rw [List.map_append]; exact List.mem_append.mpr (.inl ((hp.mem n).mpr h))
      · exact k2 n h
  have nsd : (new.subst (s0 ++ ext)).depth ≤ new.depth + (inner.depth + 1) := depth_subst (fun p hm => (vals p hm).2.1) new
  have nsz : (new.subst (s0 ++ ext)).size ≤ new.size * (t.size + 3) := size_subst (by omega) (fun p hm => (vals p hm).2.2) new
  have nz4 : new.size * (t.size + 3) ≤ 4 * (t.size + 3) := Nat.mul_le_mul_right _ hn.z
  have nd2 := hn.d
  have ud := depth_repl_at (u := new.subst (s0 ++ ext)) hi
  have uz := size_repl_at (u := new.subst (s0 ++ ext)) hi
  have wide : (t.repl pos (new.subst (s0 ++ ext))).wide = false := not_wide (by omega) (by omega)
  have ud' : (t.repl pos (new.subst (s0 ++ ext))).depth ≤ t.depth + 3 := by omega
  have uz' : (t.repl pos (new.subst (s0 ++ ext))).size ≤ 5 * t.size + 12 := by omega
  have udr : Drawn ops 3 (t.repl pos (new.subst (s0 ++ ext))) := by
    have sv : ∀ n : Int, (.inl n : Key) ∈ (new.subst (s0 ++ ext)).syms → 0 ≤ n ∧ n < ((3 : Nat) : Int) := fun n h => by
      rcases var_subst h with ⟨h1, h2⟩ | ⟨p, hp1, hp2⟩
      · exact absurd h2 (lookup_in (k2 n h1))
      · exact (vals p hp1).1.vs n hp2
    have sf : (new.subst (s0 ++ ext)).ofs (ops.map (·.1)) := fun f h => by
      rcases syms_subst h with h1 | ⟨p, hp1, hp2⟩
      · exact hn.f f h1
      · exact (vals p hp1).1.fs f hp2
    exact ⟨fun n h => (syms_repl h).elim (ht.vs n) (sv n), fun f h => (syms_repl h).elim (ht.fs f) (sf f)⟩
  have lo := lim_of g (Nat.le_trans od' (by omega)) (Nat.le_trans oz' (by omega)) o4 of'
  have ln := lim_of g (Nat.le_trans hn.d (by decide)) (Nat.le_trans hn.z (by decide)) hn.i hn.f
  have gst : GoodStp ⟨b, i, fw, pos, s0 ++ ext⟩ := ⟨len, lim⟩
  have bb : ∀ l r : Tm, (∀ n : Int, n ∈ (s0 ++ ext).map (·.1) ↔ (.inl n : Key) ∈ l.syms ∨ (.inl n : Key) ∈ r.syms) → bindsB (s0 ++ ext) l r = true := fun l r h => by
    unfold bindsB
    refine decide_eq_true ⟨nd, fun n hn2 => ?_, fun n hn2 => ?_⟩
    · rw [List.mem_append, Tm.mem_vars, Tm.mem_vars]
      exact (h n).mp hn2
    · rw [List.mem_append, Tm.mem_vars, Tm.mem_vars] at hn2
      exact (h n).mpr hn2
  cases fw with
  | true =>
    exact ⟨rfl, rfl, fun G E h => step_ok (s := ⟨b, i, true, pos, s0 ++ ext⟩) (e := (inner.repl pos2 (.v 9), new)) h (bb _ _ keys) hi fit.symm wide, ⟨lo, ln⟩, gst, o4, hn.i, of', hn.f, ud', uz', udr⟩
  | false =>
    exact ⟨rfl, rfl, fun G E h => step_ok (s := ⟨b, i, false, pos, s0 ++ ext⟩) (e := (new, inner.repl pos2 (.v 9))) h (bb _ _ fun n => (keys n).trans ⟨fun z => z.elim .inr .inl, fun z => z.elim .inr .inl⟩) hi fit.symm wide, ⟨ln, lo⟩, gst, hn.i, o4, hn.f, of', ud', uz', udr⟩
/-- the step that does nothing -/
theorem dstep_idle {ops : List Op} (g : GoodOps ops) {t : Tm} (ht : Drawn ops 3 t) (hd : t.depth ≤ 9) (hz : t.size ≤ 400) (b : Bool) (i : Nat) : DStep ops t b i (.v 9, .v 9) ⟨b, i, true, [], [(9, t)]⟩ t := by
  have l9 : Lim (.v 9) := lim_of g (by decide) (by decide) in4_9 ofs_v
  have e0 : ∀ u : Tm, t.repl [] u = u := fun u => by cases t <;> rfl
  have es : (Tm.v 9).subst [(9, t)] = t := by
    show (List.lookup (9 : Int) [(9, t)]).getD (.v 9) = t
    simp [List.lookup]
  refine ⟨rfl, rfl, fun G E h => ?_, ⟨l9, l9⟩, ⟨Nat.le_of_ble_eq_true rfl, fun p hp => ?_⟩, in4_9, in4_9, ofs_v, ofs_v, by omega, by omega, ht⟩
  · have := step_ok (s := ⟨b, i, true, [], [(9, t)]⟩) (e := (.v 9, .v 9)) (t := t) (x := t) h (by
      unfold bindsB
      refine decide_eq_true ⟨by simp, fun n hn => ?_, fun n hn => ?_⟩
      · rw [List.mem_append, Tm.mem_vars]
        simp at hn
        subst hn
        exact .inl (by simp [Tm.syms])
      · rw [List.mem_append, Tm.mem_vars] at hn
        simpa [Tm.syms] using hn) (by cases t <;> rfl) es.symm (by
        show (t.repl [] ((Tm.v 9).subst [(9, t)])).wide = false
        rw [e0, es]
        exact not_wide (by omega) (by omega))
    have e2 : (t.repl [] ((Tm.v 9).subst [(9, t)])) = t := by rw [e0, es]
    rw [this]
    exact congrArg some e2
  · rw [List.mem_singleton.mp hp]
    exact lim_of g (by show t.depth ≤ 12; omega) (by show t.size ≤ 2500; omega) ht.in4 ht.fs
end K65
namespace K65
open PySem PySem.Spec PyProof.Rows L2
/-! ### _law_step, _law_true_step -/
theorem IsMod.fr {a sc : Addr} {H H' : Hp} {M : Mdl} {v : V} (h : IsMod H M v) (st : St a sc H) (s : Fr [a] H H') : IsMod H' M v := by
  obtain ⟨p, d, kvs, e, h1, h2, h3⟩ := h
  have ne : ∀ {b : Addr} {o : HO}, H b = some o → (∀ xs, o ≠ .lst xs) → b ∉ [a] := fun {b o} hb ho z => by
    obtain ⟨n, i, sd, scr, e1, _⟩ := st
    rw [List.mem_singleton.mp z, e1] at hb
    exact ho _ (Option.some.inj hb).symm
  refine ⟨p, d, kvs, e, s.keep (ne h1 fun _ z => by cases z) h1, s.keep (ne h2 fun _ z => by cases z) h2, fun f hf => ?_⟩
  obtain ⟨x, e1, ht⟩ := h3 f hf
  exact ⟨x, e1, ht.fr st s⟩
theorem IsSub.has {H : Hp} {b : Sub} {kvs : List (Key × V)} {n : Int} (h : IsSub H b kvs) (hn : n ∈ b.map (·.1)) : ∃ x, valV kvs (.inl n : Key) = some x := by
  rcases h.get (n := n) with ⟨z, _⟩ | ⟨t, x, _, z, _⟩
  · exact absurd z (lookup_in hn)
  · exact ⟨x, z⟩
theorem A2.last {α : Type} {R : α → V → Prop} {l : List α} {vs : List V} (h : A2 R l vs) (hn : l ≠ []) : ∃ ws v a, vs = ws ++ [v] ∧ a ∈ l ∧ R a v := by
  have hl := h.len
  have hv : vs ≠ [] := fun z => by
    rw [z] at hl
    exact hn (List.eq_nil_of_length_eq_zero hl.symm)
  have e : vs[vs.length - 1]? = some (vs.getLast hv) := by rw [← List.getLast?_eq_getElem?, List.getLast?_eq_some_getLast hv]
  obtain ⟨a, ha, r⟩ := h.get e
  exact ⟨vs.dropLast, vs.getLast hv, a, (List.dropLast_concat_getLast hv).symm, List.mem_of_getElem? ha, r⟩
section
variable {P : Program} {w : World} {K : PySem.W.Frag} {mg : Str → Option Value} {base : Heap}
@[irreducible] def spLStep : Sp := fun vs H Q _ => ∃ a sc o ops t x q b i, vs = [.ref a, .ref o, .int 3, x, .ref q] ∧ St a sc H ∧ GoodOps ops ∧ IsOps H ops o ∧ IsTm H t x ∧ Drawn ops 3 t ∧ t.depth ≤ 9 ∧ t.size ≤ 400 ∧ H q = some (.tup [.str (kindS b), .int ((i : Nat) : Int)]) ∧
  ∀ p ev sv uv e st u H', H' p = some (.tup [ev, sv, uv]) → IsEq H' e ev → IsStp H' st sv → IsTm H' u uv → DStep ops t b i e st u → Fr [a] H H' → St a sc H' → Q (.ref p) H'
theorem spLStep.i {H : Hp} {Q : VK} {E : XK} {a sc o q : Addr} {ops : List Op} {t : Tm} {x : V} {b : Bool} {i : Nat} (h1 : St a sc H) (h2 : GoodOps ops) (h3 : IsOps H ops o) (h4 : IsTm H t x) (h5 : Drawn ops 3 t) (h6 : t.depth ≤ 9) (h7 : t.size ≤ 400) (h8 : H q = some (.tup [.str (kindS b), .int ((i : Nat) : Int)]))
    (k : ∀ p ev sv uv e st u H', H' p = some (.tup [ev, sv, uv]) → IsEq H' e ev → IsStp H' st sv → IsTm H' u uv → DStep ops t b i e st u → Fr [a] H H' → St a sc H' → Q (.ref p) H') : spLStep [.ref a, .ref o, .int 3, x, .ref q] H Q E := by
  unfold spLStep
  exact ⟨a, sc, o, ops, t, x, q, b, i, rfl, h1, h2, h3, h4, h5, h6, h7, h8, k⟩
theorem c_lstep (T : TopF K mg) : Cal P w K mg base CX0 15 "_law_step" ["_law_state_here", "_law_operations_here", "_law_count", "_law_term_here", "_law_source"] spLStep := by
  refine k_L_step T (fun vs H Q E h => by unfold spLStep at h; obtain ⟨_, _, _, _, _, _, _, _, _, rfl, _⟩ := h; rfl) (fun cdv A outer s H vs Q E hr h => ?_)
  unfold spLStep at h
  obtain ⟨a, sc, o, ops, t, x, q, b, i, rfl, hst, hg, ho, ht, hdr, hd, hz, hq, k⟩ := h
  have r13 : Room 13 (A.deeper (envOfC "_law_step" (defScope s_L_step) s.heap.objs.size (He.ga K "_law_step") cdv)) := hr.mono (by omega)
  obtain ⟨tB, hB, qB⟩ : ∃ tB, PSs (cxOf CX0 P w K mg base ["_law_state_here", "_law_operations_here", "_law_count", "_law_term_here", "_law_source", "_law_places", "_law_position", "_law_inner", "_law_old", "_law_bound", "_law_new", "_law_variable", "_law_result"] "_law_step" (defScope s_L_step) (He.ga K "_law_step") cdv A outer s H E).nox ((defBody s_L_step).drop 6) tB ∧
      ∀ (pl r d : Addr) (yi xo xn : V) (inner new w : Tm) (pos pos2 : List Nat) (s0 : Sub) (kvs : List (Key × V)) (H6 : Hp), Fr [a] H H6 → St a sc H6 → Tups H H6 → H6 r = some (.tup (pos.map pI)) → t.sub pos = some inner → IsTm H6 (inner.repl pos2 (.v 9)) xo → PatSub inner pos2 w s0 → s0.length ≤ 3000 → H d = none → H6 d = some (.dK kvs) → IsSub H6 s0 kvs →
        NewTm ops new → IsTm H6 new xn → tB { nx := fun _ H' => Q .non H', rt := Q } [some (.ref a), some (.ref o), some (.int 3), some x, some (.ref q), some (.ref pl), some (.ref r), some yi, some xo, some (.ref d), some xn, none, none] H6 := by
    refine ⟨_, pss_cons (ps_for PassesOwn.never rfl (pi_list (pe_cal (c_lvars T 2) (r13.mono (by omega)) rfl pass0 (pa_cons (pv 10) pa_nil))) (pg_name (i := 11) sc_L_step.nd rfl (Or.inl rfl))
        (pss_one (ps_if (pt_cmp (pc_dnotin (hu_of hr) (pv 11) (pv 9)) (by rfl)) (pss_one (ps_dput (hu_of hr) (pv 9) (pv 11) (pe_cal (c_term T 2) (r13.mono (by omega)) rfl pass0 (pa_cons (pv 0) (pa_cons (pv 1) (pa_cons (pv 2) (pa_cons pe_int pa_nil))))) rfl)) pss_nil)))
      (pss_cons (ps_set (i := 12) sc_L_step.nd rfl (Or.inl rfl) (pe_cal (c_lrepl T 13) r13 rfl pass0 (pa_cons (pv 3) (pa_cons (pv 6) (pa_cons (pe_cal (c_lsubst T 2) (r13.mono (by omega)) rfl pass0 (pa_cons (pv 10) (pa_cons (pv 9) pa_nil))) pa_nil)))))
      (pss_cons (ps_if (pt_cmpR op_eq (pe_cal (c_draw T) (r13.mono (by omega)) rfl pass0 (pa_cons (pv 0) (pa_cons pe_int pa_nil))) pe_int (nomark _))
        (pss_one (ps_ret (pe_tup (pa_cons (pe_tup (pa_cons (pv 8) (pa_cons (pv 10) pa_nil))) (pa_cons (pe_tup (pa_cons (pv 4) (pa_cons pe_bl (pa_cons (pv 6) (pa_cons (pv 9) pa_nil))))) (pa_cons (pv 12) pa_nil)))))) pss_nil)
      (pss_one (ps_ret (pe_tup (pa_cons (pe_tup (pa_cons (pv 10) (pa_cons (pv 8) pa_nil))) (pa_cons (pe_tup (pa_cons (pv 4) (pa_cons pe_bl (pa_cons (pv 6) (pa_cons (pv 9) pa_nil))))) (pa_cons (pv 12) pa_nil)))))))),
      fun pl r d yi xo xn inner new w pos pos2 s0 kvs H6 f6 st6 t6 hr6 hin hxo hps hsl dH hd6 hs6 hnew hxn => ?_⟩
    have hda := (hst.ne dH).1
    have hds := (hst.ne dH).2
    refine rd_seq (rd_for (rd_iList (rd_call1 (rd_var rfl (spLVars.i hxn hnew.d (Nat.le_trans hnew.z (by decide)) fun bb ns H7 nb s7 hb lv => ⟨bb, rfl, ⟨_, sql hb⟩, ?_⟩)))))
    have hbd : bb ≠ d := fun z => by rw [z, hd6] at nb; cases nb
    have hba := (st6.ne nb).1
    have hll := lv.len
    have hnz := hnew.z
    refine for_list (K := K) (a := bb) (xs := ns.map V.int) (fun j σ H' => ∃ z11 kvs ext, σ = [some (.ref a), some (.ref o), some (.int 3), some x, some (.ref q), some (.ref pl), some (.ref r), some yi, some xo, some (.ref d), some xn, z11, none] ∧ Fr [a] H H' ∧ St a sc H' ∧ Tups H6 H' ∧ H' bb = some (.lst (ns.map V.int)) ∧ H' d = some (.dK kvs) ∧ IsSub H' (s0 ++ ext) kvs ∧
        ((s0 ++ ext).map (·.1)).Nodup ∧ (∀ n ∈ ext.map (·.1), (.inl n : Key) ∈ new.syms) ∧ (∀ n ∈ ns.take j, n ∈ (s0 ++ ext).map (·.1)) ∧ (∀ p ∈ ext, Drawn ops 3 p.2 ∧ p.2.depth ≤ 2 ∧ p.2.size ≤ 4) ∧ ext.length ≤ j)
      ⟨_, kvs, [], rfl, f6.trans (Fr.of s7), st6.mono s7, Tups.same s7, hb, s7 _ _ hd6, by rw [List.append_nil]; exact hs6.mono (Tups.same s7), by rw [List.append_nil]; exact hps.nd, (fun _ z => (by cases z)), (fun _ z => (by simp at z)), (fun _ z => (by cases z)), Nat.le_refl _⟩ (fun j σ H' _ hh => ?_) ?_ ?_
    · obtain ⟨z11, kvs, ext, rfl, _, _, _, c4, _⟩ := hh
      exact sql c4
    · rintro j y σ H8 hj ⟨z11, kvs, ext, rfl, c1, c2, c3, c4, c5, c6, c7, c8, c9, c10, c11⟩
      obtain ⟨m, hm, rfl⟩ : ∃ m, ns[j]? = some m ∧ y = .int m := by
        rw [List.getElem?_map] at hj
        cases e : ns[j]? with
        | none => rw [e] at hj; cases hj
        | some m => rw [e] at hj; exact ⟨m, rfl, (Option.some.inj hj).symm⟩
      have tk := take_succ' hm
      have hmn := List.mem_of_getElem? hm
      have hjl := (List.getElem?_eq_some_iff.mp hm).1
      refine rd_name (rd_if (rd_B ?_))
      refine ⟨_, rfl, _, rfl, d, _, rfl, DGet.k (k := (.inl m : Key)) c5, _, rfl, ?_⟩
      by_cases hk : m ∈ (s0 ++ ext).map (·.1)
      · obtain ⟨xx, hx⟩ := c6.has hk
        rw [hx]
        refine iteF (rd_next ⟨_, kvs, ext, rfl, c1, c2, c3, c4, c5, c6, c7, c8, fun n hn => ?_, c10, by omega⟩)
        rw [tk] at hn
        rcases List.mem_append.mp hn with z | z
        · exact c9 n z
        · rw [List.mem_singleton.mp z]; exact hk
      · rw [c6.out hk]
        refine iteT (rd_dput (rd_call4 (rd_var rfl (rd_var rfl (rd_var rfl (rd_c (spTerm.i (c := 3) (h := 1) (by decide) (by decide) c2 hg (ho.fr hg hst c1) fun v tm H9 tv td tz tD f9 s9 => ?_)))))))
        have tt := tups_st c2 f9
        have d9 : H9 d = some (.dK kvs) := f9.keep (fun z => hda (List.mem_singleton.mp z)) c5
        have b9 : H9 bb = some (.lst (ns.map V.int)) := f9.keep (fun z => hba (List.mem_singleton.mp z)) c4
        have hkl := (c6.mono tt).len
        rw [List.length_append] at hkl
        have z := sub_put (n := m) (t := tm) (x := v) d9 (c6.mono tt) hk tv
        rw [List.append_assoc] at z
        refine rd_var rfl (rd_var rfl ⟨d, _, rfl, DPut.k (k := (.inl m : Key)) d9 (by rw [hkl, sizeLine_eq]; omega), _, _, ext ++ [(m, tm)], rfl, (c1.trans f9).mut (no_none dH), s9.upd hda hds, (c3.trans tt).trans (tups_dk d9), by rw [upd_ne hbd]; exact b9, upd_same, z, ?_, fun n hn => ?_, fun n hn => ?_, fun p hp => ?_, by rw [List.length_append]; simp; omega⟩)
        · rw [← List.append_assoc, List.map_append]
          exact nd_snoc c7 hk
        · rw [List.map_append] at hn
          rcases List.mem_append.mp hn with z | z
          · exact c8 n z
          · rw [List.mem_singleton.mp z]; exact (lv.mem m).mp hmn
        · rw [← List.append_assoc, List.map_append]
          rw [tk] at hn
          rcases List.mem_append.mp hn with z | z
          · exact List.mem_append.mpr (.inl (c9 n z))
          · exact List.mem_append.mpr (.inr (by rw [List.mem_singleton.mp z]; exact List.mem_cons_self))
        · rcases List.mem_append.mp hp with z | z
          · exact c10 p z
          · rw [List.mem_singleton.mp z]; exact ⟨tD, td, tz⟩
    · rintro σ H8 ⟨z11, kvs, ext, rfl, c1, c2, c3, c4, c5, c6, c7, c8, c9, c10, c11⟩
      rw [List.length_map, List.take_length] at c9
      have k2 : ∀ n : Int, (.inl n : Key) ∈ new.syms → n ∈ (s0 ++ ext).map (·.1) := fun n hn => c9 n ((lv.mem n).mpr hn)
      have hsub := sub_depth hin
      have ip := inner.depth_pos
      refine rd_nx (rd_let (rd_call3 (rd_var rfl (rd_var rfl (rd_call2 (rd_var rfl (rd_var rfl (spSubst.i hnew.d (Nat.le_trans hnew.z (by decide)) (hxn.mono c3) c5 c6 fun z H9 s9 hz9 => ?_))))))))
      have t9 := (t6.trans c3).trans (Tups.same s9)
      refine spRepl.i (by omega) (by omega) (ht.mono t9) (s9 _ _ (c3 _ _ hr6)) hz9 (by rw [hin]; simp) fun zr H10 s10 hzr => ?_
      have t10 := t9.trans (Tups.same s10)
      have s810 := s9.trans s10
      refine rd_when1 (rd_test (rd_op (rd_call2 (rd_var rfl (rd_c (spDraw.i (by decide) (by decide) (c2.mono s810) fun n H11 hn f11 s11 => ⟨rfl, _, rfl, ?_⟩))))))
      have t11 := tups_st (c2.mono s810) f11
      have d11 : H11 d = some (.dK kvs) := f11.keep (fun z => hda (List.mem_singleton.mp z)) (s810 _ _ c5)
      have fr11 : Fr [a] H H11 := (c1.trans (Fr.of s810)).trans f11
      have fin : ∀ (fw : Bool) (x1 x2 : V), IsTm H11 (if fw = true then (inner.repl pos2 (.v 9), new) else (new, inner.repl pos2 (.v 9))).1 x1 → IsTm H11 (if fw = true then (inner.repl pos2 (.v 9), new) else (new, inner.repl pos2 (.v 9))).2 x2 →
          ∀ p1, H11 p1 = none → ∀ p2, (upd H11 p1 (.tup [x1, x2])) p2 = none → ∀ p3, (upd (upd H11 p1 (.tup [x1, x2])) p2 (.tup [.ref q, .bl fw, .ref r, .ref d])) p3 = none →
          Q (.ref p3) (upd (upd (upd H11 p1 (.tup [x1, x2])) p2 (.tup [.ref q, .bl fw, .ref r, .ref d])) p3 (.tup [.ref p1, .ref p2, zr])) := fun fw x1 x2 h1 h2 p1 n1 p2 n2 p3 n3 => by
        have w1 : Same H11 (upd H11 p1 (.tup [x1, x2])) := Same.new n1 _
        have w2 : Same (upd H11 p1 (.tup [x1, x2])) (upd (upd H11 p1 (.tup [x1, x2])) p2 (.tup [.ref q, .bl fw, .ref r, .ref d])) := Same.new n2 _
        have w3 : Same (upd (upd H11 p1 (.tup [x1, x2])) p2 (.tup [.ref q, .bl fw, .ref r, .ref d])) (upd (upd (upd H11 p1 (.tup [x1, x2])) p2 (.tup [.ref q, .bl fw, .ref r, .ref d])) p3 (.tup [.ref p1, .ref p2, zr])) := Same.new n3 _
        have w := (w1.trans w2).trans w3
        have hb1 : H6 q = some (.tup [.str (kindS b), .int ((i : Nat) : Int)]) := t6 _ _ hq
        refine k p3 _ _ zr _ _ _ _ upd_same ⟨p1, x1, x2, rfl, w3 _ _ (w2 _ _ upd_same), h1.mono (Tups.same w), h2.mono (Tups.same w)⟩ ⟨p2, q, r, d, kvs, rfl, w3 _ _ upd_same, w _ _ (t11 _ _ (t10 _ _ hq)), w _ _ (t11 _ _ ?_), w _ _ d11, (c6.mono (Tups.same s810)).mono (t11.trans (Tups.same w))⟩ (hzr.mono (t11.trans (Tups.same w))) (dstep_make hg hdr hd hz hin hps hnew c7 c8 k2 c10 b i fw) (fr11.trans (Fr.of w)) (s11.mono w)
        exact s810 _ _ (c3 _ _ hr6)
      have io : IsTm H11 (inner.repl pos2 (.v 9)) xo := hxo.mono ((c3.trans (Tups.same s810)).trans t11)
      have inn : IsTm H11 new xn := hxn.mono ((c3.trans (Tups.same s810)).trans t11)
      split
      · exact rd_ret (rd_tup (rd_cons3 (rd_tup (rd_cons2 (rd_var rfl (rd_var rfl ⟨ln_ok, fun p1 n1 => rd_tup (rd_cons4 (rd_var rfl (rd_c (rd_var rfl (rd_var rfl ⟨ln_ok, fun p2 n2 => rd_var rfl ⟨ln_ok, fun p3 n3 => fin true xo xn io inn p1 n1 p2 n2 p3 n3⟩⟩)))))⟩))))))
      · exact rd_ret (rd_tup (rd_cons3 (rd_tup (rd_cons2 (rd_var rfl (rd_var rfl ⟨ln_ok, fun p1 n1 => rd_tup (rd_cons4 (rd_var rfl (rd_c (rd_var rfl (rd_var rfl ⟨ln_ok, fun p2 n2 => rd_var rfl ⟨ln_ok, fun p3 n3 => fin false xn xo inn io p1 n1 p2 n2 p3 n3⟩⟩)))))⟩))))))
  refine ⟨_, pss_cons (ps_set (i := 5) sc_L_step.nd rfl (Or.inl rfl) (pe_cal (c_positions T 9) (hr.mono (by omega)) rfl pass0 (pa_cons (pv 3) pa_nil)))
    (pss_cons (ps_set (i := 6) sc_L_step.nd rfl (Or.inl rfl) (pe_ix ix_list (pv 5) (pe_cal (c_draw T) (hr.mono (by omega)) rfl pass0 (pa_cons (pv 0) (pa_cons (pe_callB call_len rfl T.z_len (by decide +kernel) (pa_cons (pv 5) pa_nil)) pa_nil))) (fun _ _ => rfl)))
    (pss_cons (ps_set (i := 7) sc_L_step.nd rfl (Or.inl rfl) (pe_cal (c_lsub T) (hr.mono (by omega)) rfl pass0 (pa_cons (pv 3) (pa_cons (pv 6) pa_nil))))
    (pss_cons (ps_asg (pe_cal (c_pattern T) hr rfl pass0 (pa_cons (pv 0) (pa_cons (pv 7) (pa_cons (pe_cal (c_positions T 9) (hr.mono (by omega)) rfl pass0 (pa_cons (pv 7) pa_nil)) pa_nil)))) (pg_tup rfl (pgs_cons (pg_name (i := 8) sc_L_step.nd rfl (Or.inl rfl)) (pgs_cons (pg_name (i := 9) sc_L_step.nd rfl (Or.inl rfl)) pgs_nil))))
    (pss_cons (ps_set (i := 10) sc_L_step.nd rfl (Or.inl rfl) (pe_cal (c_term T 2) (hr.mono (by omega)) rfl pass0 (pa_cons (pv 0) (pa_cons (pv 1) (pa_cons (pv 2) (pa_cons pe_int pa_nil))))))
    (pss_cons (ps_if (pt_cmpR op_eq (pe_cal (c_draw T) (hr.mono (by omega)) rfl pass0 (pa_cons (pv 0) (pa_cons pe_int pa_nil))) pe_int (nomark _))
      (pss_one (ps_set (i := 10) sc_L_step.nd rfl (Or.inl rfl) (pe_cal (c_lrepl T 13) r13 rfl pass0 (pa_cons (pv 10) (pa_cons (pe_ix ix_list (pe_cal (c_positions T 2) (hr.mono (by omega)) rfl pass0 (pa_cons (pv 10) pa_nil)) (pe_op op_sub pe_int pe_int) (fun _ _ => rfl)) (pa_cons pe_int pa_nil)))))) pss_nil) hB))))), ?_⟩
  refine rd_let (rd_call1 (rd_var rfl (spPos.i ht hd (by omega) fun pl ps ws H1 npl s1 hpl hps hne hplen hpv => ?_)))
  have st1 := hst.mono s1
  have hpla : pl ≠ a := (hst.ne npl).1
  have hwl := hps.len
  have hpos : 0 < ps.length := List.length_pos_iff.mpr hne
  refine rd_let (rd_ixL (rd_var rfl (rd_call2 (rd_var rfl (rd_B1 (rd_var rfl ⟨_, _, rfl, .inl ⟨_, sql hpl, rfl⟩, spDraw.i (by omega) (by omega) st1 fun n H2 hn f2 s2 => ?_⟩))))))
  have t2 := tups_st st1 f2
  have hpl2 : H2 pl = some (.lst ws) := f2.keep (fun z => hpla (List.mem_singleton.mp z)) hpl
  have hn' : n < ps.length := by omega
  obtain ⟨v, hv, ⟨r, rfl, hr'⟩⟩ := (hps.poss t2).nth (List.getElem?_eq_getElem hn')
  have hsub := hpv _ (List.getElem_mem hn')
  generalize ps[n] = pos at hr' hsub
  obtain ⟨inner, hin⟩ := Option.ne_none_iff_exists'.mp hsub
  have hdi := sub_depth hin
  have hzi := sub_size hin
  have t02 := (Tups.same s1).trans t2
  have f02 : Fr [a] H H2 := (Fr.of s1).trans f2
  refine ⟨pl, ws, _, _, rfl, rfl, sql hpl2, atI_nat hv, rd_let (rd_call2 (rd_var rfl (rd_var rfl (spLSub.i (ht.mono t02) hr' hin fun yi hyi => ?_))))⟩
  refine rd_seq (rd_asg (rd_call3 (rd_var rfl (rd_var rfl (rd_call1 (rd_var rfl (spPos.i hyi (by omega) (by omega) fun pl2 ps2 ws2 H3 npl2 s3 hpl2' hps2 hne2 hplen2 hpv2 => ?_)))))))
  have hpl2a : pl2 ≠ a := (s2.ne npl2).1
  refine spPat.i (s2.mono s3) (hyi.mono (Tups.same s3)) (by omega) (by omega) hpl2a hpl2' hps2 hne2 hplen2 hpv2 fun p xo d kvs pos2 w' s0 H4 hp4 hxo nd hd4 hs4 hpat hsl f4 st4 => ?_
  have t34 := tups_st (s2.mono s3) f4
  have t04 := (t02.trans (Tups.same s3)).trans t34
  have f04 := (f02.trans (Fr.of s3)).trans f4
  have dH : H d = none := hst.fresh (f02.trans (Fr.of s3)) (s2.mono s3) nd
  refine rd_unl2 rfl hp4 (rd_nx (rd_let (rd_call4 (rd_var rfl (rd_var rfl (rd_var rfl (rd_c (spTerm.i (c := 3) (h := 1) (by decide) (by decide) st4 hg (ho.fr hg hst f04) fun xn new0 H5 hxn td tz tD f5 st5 => ?_))))))))
  have t45 := tups_st st4 f5
  have t05 := t04.trans t45
  have f05 := f04.trans f5
  have hda := (hst.ne dH).1
  have new0' : NewTm ops new0 := ⟨td, tz, tD.in4, tD.fs⟩
  refine rd_when1 (rd_test (rd_op (rd_call2 (rd_var rfl (rd_c (spDraw.i (by decide) (by decide) st5 fun n6 H6 hn6 f6 st6 => ⟨rfl, _, rfl, ?_⟩))))))
  have t56 := tups_st st5 f6
  have t06 := t05.trans t56
  have d6 : H6 d = some (.dK kvs) := f6.keep (fun z => hda (List.mem_singleton.mp z)) (f5.keep (fun z => hda (List.mem_singleton.mp z)) hd4)
  have t46 := t45.trans t56
  have r6 : H6 r = some (.tup (pos.map pI)) := t46 _ _ (t34 _ _ (s3 _ _ hr'))
  split
  · refine rd_set (rd_call3 (rd_var rfl (rd_ixL (rd_call1 (rd_var rfl (spPos.i (hxn.mono t56) td (Nat.le_trans tz (by decide)) fun pl3 ps3 ws3 H7 npl3 s7 hpl3 hps3 hne3 hplen3 hpv3 => ?_))))))
    obtain ⟨wi, vl, posl, rfl, hpm, ⟨rl, rfl, hrl⟩⟩ := hps3.last hne3
    refine rd_op (rd_c ⟨(0 : Int), (1 : Int), rfl, rfl, pl3, _, -1, _, rfl, rfl, sql hpl3, atI_last _ _, ?_⟩)
    have hnl := hpv3 posl hpm
    obtain ⟨wl, hwl3⟩ := Option.ne_none_iff_exists'.mp hnl
    have hd3 := sub_depth hwl3
    have wlp := wl.depth_pos
    refine rd_c (spRepl.i (u := .v 9) (by omega) (Nat.le_trans tz (by decide)) ((hxn.mono t56).mono (Tups.same s7)) hrl rfl hnl fun xn2 H8 s8 hxn2 => rd_nx ?_)
    have s68 := s7.trans s8
    have rd := depth_repl_at (u := .v 9) hwl3
    have rz := size_repl_at (u := .v 9) hwl3
    have wz := tm_pos wl
    have e9d : (Tm.v 9).depth = 1 := rfl
    have e9z : (Tm.v 9).size = 1 := rfl
    rw [e9d] at rd
    rw [e9z] at rz
    have tz4 : new0.size ≤ 4 := tz
    refine qB pl r d yi xo xn2 inner (new0.repl posl (.v 9)) w' pos pos2 s0 kvs H8 ((f05.trans f6).trans (Fr.of s68)) (st6.mono s68) (t06.trans (Tups.same s68)) (s68 _ _ r6) hin (hxo.mono (t46.trans (Tups.same s68))) hpat hsl dH (s68 _ _ d6) ((hs4.mono t46).mono (Tups.same s68)) ⟨by omega, by omega, in4_repl new0'.i in4_9, ofs_repl new0'.f ofs_v⟩ hxn2
  · exact qB pl r d yi xo xn inner new0 w' pos pos2 s0 kvs H6 (f05.trans f6) st6 t06 r6 hin (hxo.mono t46) hpat hsl dH d6 (hs4.mono t46) new0' (hxn.mono t56)
end
end K65
namespace K65
open PySem PySem.Spec PyProof.Rows L2
/-! ### _law_true_step, _law_line -/
theorem ofs_mod {ops : List Op} {M : Mdl} (h : M.fs = ops.map (·.1)) {t : Tm} (ht : t.ofs (ops.map (·.1))) : t.ofs M.fs := by rw [h]; exact ht
theorem lv2_5 {l r : Tm} (h1 : In4 l) (h2 : In4 r) : ∀ ns, LV2 l r ns → ns.length ≤ 5 := fun ns lv =>
  Nat.le_trans (four lv.nd fun n hn => ((lv.mem n).mp hn).elim (h1 n) (h2 n)) (by decide)
section
variable {P : Program} {w : World} {K : PySem.W.Frag} {mg : Str → Option Value} {base : Heap}
@[irreducible] def spLTrue : Sp := fun vs H Q _ => ∃ a sc o ops M m t x q b i, vs = [.ref a, .ref o, m, x, .ref q] ∧ St a sc H ∧ GoodOps ops ∧ IsOps H ops o ∧ M.fs = ops.map (·.1) ∧ GoodM M ∧ IsMod H M m ∧ IsTm H t x ∧ Drawn ops 3 t ∧ t.depth ≤ 9 ∧ t.size ≤ 400 ∧ H q = some (.tup [.str (kindS b), .int ((i : Nat) : Int)]) ∧
  ∀ p ev sv uv e st u H', H' p = some (.tup [ev, sv, uv]) → IsEq H' e ev → IsStp H' st sv → IsTm H' u uv → DStep ops t b i e st u → HoldsIn M e.1 e.2 → Fr [a] H H' → St a sc H' → Q (.ref p) H'
theorem spLTrue.i {H : Hp} {Q : VK} {E : XK} {a sc o q : Addr} {ops : List Op} {M : Mdl} {m : V} {t : Tm} {x : V} {b : Bool} {i : Nat} (h1 : St a sc H) (h2 : GoodOps ops) (h3 : IsOps H ops o) (hf : M.fs = ops.map (·.1)) (hM : GoodM M) (hm : IsMod H M m) (h4 : IsTm H t x) (h5 : Drawn ops 3 t) (h6 : t.depth ≤ 9) (h7 : t.size ≤ 400) (h8 : H q = some (.tup [.str (kindS b), .int ((i : Nat) : Int)]))
    (k : ∀ p ev sv uv e st u H', H' p = some (.tup [ev, sv, uv]) → IsEq H' e ev → IsStp H' st sv → IsTm H' u uv → DStep ops t b i e st u → HoldsIn M e.1 e.2 → Fr [a] H H' → St a sc H' → Q (.ref p) H') : spLTrue [.ref a, .ref o, m, x, .ref q] H Q E := by
  unfold spLTrue
  exact ⟨a, sc, o, ops, M, m, t, x, q, b, i, rfl, h1, h2, h3, hf, hM, hm, h4, h5, h6, h7, h8, k⟩
theorem c_ltrue (T : TopF K mg) : Cal P w K mg base CX0 16 "_law_true_step" ["_law_state_here", "_law_operations_here", "_law_model_here", "_law_term_here", "_law_source"] spLTrue := by
  refine k_L_true_step T (fun vs H Q E h => by unfold spLTrue at h; obtain ⟨_, _, _, _, _, _, _, _, _, _, _, rfl, _⟩ := h; rfl) (fun cdv A outer s H vs Q E hr h => ?_)
  unfold spLTrue at h
  obtain ⟨a, sc, o, ops, M, m, t, x, q, b, i, rfl, hst, hg, ho, hMf, hM, hm, ht, hdr, hd, hz, hq, k⟩ := h
  refine ⟨_, pss_cons (ps_for PassesOwn.never rfl (pi_range1 rfl T.z_range (pa_cons pe_int pa_nil)) (pg_name (i := 5) sc_L_true_step.nd rfl (Or.inl rfl))
      (pss_cons (ps_asg (pe_cal (c_lstep T) hr rfl pass0 (pa_cons (pv 0) (pa_cons (pv 1) (pa_cons pe_int (pa_cons (pv 3) (pa_cons (pv 4) pa_nil)))))) (pg_tup rfl (pgs_cons (pg_name (i := 6) sc_L_true_step.nd rfl (Or.inl rfl)) (pgs_cons (pg_name (i := 7) sc_L_true_step.nd rfl (Or.inl rfl)) (pgs_cons (pg_name (i := 8) sc_L_true_step.nd rfl (Or.inl rfl)) pgs_nil)))))
      (pss_one (ps_if (pt_cmpR op_lt (pe_callB call_len rfl T.z_len (by decide +kernel) (pa_cons (pe_cal (c_eqN T 12) (hr.mono (by omega)) rfl pass0 (pa_cons (pe_ix ix_tup (pv 6) pe_int (fun _ _ => rfl)) (pa_cons (pe_ix ix_tup (pv 6) pe_int (fun _ _ => rfl)) pa_nil))) pa_nil)) pe_int (nomark _))
        (pss_one (ps_if (pt_cmpR op_isN (pe_cal (c_lfd T) (hr.mono (by omega)) rfl pass0 (pa_cons (pv 2) (pa_cons (pe_ix ix_tup (pv 6) pe_int (fun _ _ => rfl)) (pa_cons (pe_ix ix_tup (pv 6) pe_int (fun _ _ => rfl)) pa_nil)))) pe_non (nomark _))
          (pss_one (ps_ret (pe_tup (pa_cons (pv 6) (pa_cons (pv 7) (pa_cons (pv 8) pa_nil)))))) pss_nil)) pss_nil))))
    (pss_cons (ps_set (i := 9) sc_L_true_step.nd rfl (Or.inl rfl) (pe_disp (pps_cons pe_int (pv 3) pps_nil) rfl rfl (fun z => by cases z) (by decide)))
    (pss_one (ps_ret (pe_tup (pa_cons (pe_tup (pa_cons pe_int (pa_cons pe_int pa_nil))) (pa_cons (pe_tup (pa_cons (pv 4) (pa_cons pe_bl (pa_cons (pe_tup pa_nil) (pa_cons (pv 9) pa_nil))))) (pa_cons (pv 3) pa_nil))))))), ?_⟩
  refine rd_seq (rd_for (rd_rng1 (rd_cons1 (rd_c ⟨6, rfl, by decide, by decide, ?_⟩))))
  refine for_range (lo := 0) (n := 6) (fun j σ H' => ∃ z5 z6 z7 z8, σ = [some (.ref a), some (.ref o), some m, some x, some (.ref q), z5, z6, z7, z8, none] ∧ Fr [a] H H' ∧ St a sc H' ∧ Tups H H') ⟨_, _, _, _, rfl, Fr.refl, hst, Tups.refl _⟩ ?_ ?_
  · rintro j σ H1 hj ⟨z5, z6, z7, z8, rfl, c1, c2, c3⟩
    refine rd_name (rd_seq (rd_asg (rd_call5 (rd_var rfl (rd_var rfl (rd_c (rd_var rfl (rd_var rfl (spLStep.i c2 hg (ho.fr hg hst c1) (ht.mono c3) hdr hd hz (c3 _ _ hq) fun p ev sv uv e st u H2 hp he hs hu ds f2 s2 => ?_)))))))))
    have t2 := c3.trans (tups_st c2 f2)
    obtain ⟨pe', x1, x2, rfl, he1, h1, h2⟩ := he
    refine rd_unl3 rfl hp (rd_nx (rd_if (rd_test (rd_op (rd_B1 (rd_call2 (rd_ixTc rfl he1 at0 (rd_ixTc rfl he1 at1 (spEqN.i h1 h2 ds.ge.1.d (Nat.le_trans ds.ge.1.z (by decide)) ds.ge.2.d (Nat.le_trans ds.ge.2.z (by decide)) fun pn ns H3 np s3 hpn lv => ⟨_, _, rfl, .inl ⟨_, sql hpn, rfl⟩, _, _, rfl, rfl, _, rfl, ?_⟩)))))))))
    split
    · refine rd_if (rd_test (rd_op (rd_call3 (rd_var rfl (rd_ixTc rfl (s3 _ _ he1) at0 (rd_ixTc rfl (s3 _ _ he1) at1 ?_))))))
      refine spLFd.i ((hm.fr hst (c1.trans f2)).mono s3) hM.pos hM.le (h1.mono (Tups.same s3)) (h2.mono (Tups.same s3)) ds.ge.1.d (Nat.le_trans ds.ge.1.z (by decide)) ds.ge.2.d (Nat.le_trans ds.ge.2.z (by decide)) (ofs_mod hMf ds.f1) (ofs_mod hMf ds.f2) (lv2_5 ds.i1 ds.i2) fun v H4 s4 hv => ⟨rfl, _, rfl, ?_⟩
      have s34 := s3.trans s4
      by_cases e0 : v = .non
      · rw [decide_eq_true e0]
        refine iteT (rd_ret (rd_tup (rd_cons3 (rd_var rfl (rd_var rfl (rd_var rfl ⟨ln_ok, fun p3 n3 => ?_⟩))))))
        have s5 : Same H4 (upd H4 p3 (.tup [.ref pe', sv, uv])) := Same.new n3 _
        have s25 := s34.trans s5
        exact k p3 _ sv uv e st u _ upd_same ⟨pe', x1, x2, rfl, s25 _ _ he1, h1.mono (Tups.same s25), h2.mono (Tups.same s25)⟩ (hs.mono s25) (hu.mono (Tups.same s25)) ds (hv.mp e0) ((c1.trans f2).trans (Fr.of s25)) (s2.mono s25)
      · rw [decide_eq_false e0]
        exact iteF (rd_next ⟨_, _, _, _, rfl, (c1.trans f2).trans (Fr.of s34), s2.mono s34, t2.trans (Tups.same s34)⟩)
    · exact rd_next ⟨_, _, _, _, rfl, (c1.trans f2).trans (Fr.of s3), s2.mono s3, t2.trans (Tups.same s3)⟩
  · rintro σ H1 ⟨z5, z6, z7, z8, rfl, c1, c2, c3⟩
    refine rd_nx (rd_let ?_)
    show ∀ d, H1 d = none → _
    intro d nd
    have u1 : Same H1 (upd H1 d (.dK [])) := Same.new nd _
    refine rd_c (rd_var rfl ⟨upd_same, [((.inl (9 : Int) : Key), x)], rfl, Nat.le_of_ble_eq_true rfl, ?_⟩)
    have em : mergeK [] [((.inl (9 : Int) : Key), x)] = [((.inl (9 : Int) : Key), x)] := rfl
    rw [em]
    obtain ⟨da, dsc⟩ := c2.ne nd
    have dH : H d = none := hst.fresh c1 c2 nd
    have u2 : Same H1 (upd (upd H1 d (.dK [])) d (.dK [((.inl (9 : Int) : Key), x)])) := Same.mut u1 nd
    have hd2 : (upd (upd H1 d (.dK [])) d (.dK [((.inl (9 : Int) : Key), x)])) d = some (.dK [((.inl (9 : Int) : Key), x)]) := upd_same
    generalize upd (upd H1 d (.dK [])) d (.dK [((.inl (9 : Int) : Key), x)]) = H2 at u2 hd2
    refine rd_ret (rd_tup (rd_cons3 (rd_tup (rd_cons2 (rd_c (rd_c ⟨ln_ok, fun p1 n1 => rd_tup (rd_cons4 (rd_var rfl (rd_c (rd_tup0 fun e ne => rd_var rfl ⟨ln_ok, fun p2 n2 => rd_var rfl ⟨ln_ok, fun p3 n3 => ?_⟩⟩))))⟩))))))
    have w1 : Same H2 (upd H2 p1 (.tup [.int 9, .int 9])) := Same.new n1 _
    have w2 := w1.trans (Same.new ne (.tup []))
    have w23 : Same (upd (upd H2 p1 (.tup [.int 9, .int 9])) e (.tup [])) (upd (upd (upd H2 p1 (.tup [.int 9, .int 9])) e (.tup [])) p2 (.tup [.ref q, .bl true, .ref e, .ref d])) := Same.new n2 _
    have w34 : Same (upd (upd (upd H2 p1 (.tup [.int 9, .int 9])) e (.tup [])) p2 (.tup [.ref q, .bl true, .ref e, .ref d])) (upd (upd (upd (upd H2 p1 (.tup [.int 9, .int 9])) e (.tup [])) p2 (.tup [.ref q, .bl true, .ref e, .ref d])) p3 (.tup [.ref p1, .ref p2, x])) := Same.new n3 _
    have w12 : Same (upd H2 p1 (.tup [.int 9, .int 9])) (upd (upd H2 p1 (.tup [.int 9, .int 9])) e (.tup [])) := Same.new ne _
    have wf := (w2.trans w23).trans w34
    have wH := u2.trans wf
    have tt := c3.trans (Tups.same wH)
    exact k p3 _ _ x (.v 9, .v 9) ⟨b, i, true, [], [(9, t)]⟩ t _ upd_same ⟨p1, _, _, rfl, w34 _ _ (w23 _ _ (w12 _ _ upd_same)), rfl, rfl⟩ ⟨p2, q, e, d, _, rfl, w34 _ _ upd_same, tt _ _ hq, w34 _ _ (w23 _ _ upd_same), wf _ _ hd2, x, [], rfl, ht.mono tt, rfl⟩ (ht.mono tt) (dstep_idle hg hdr hd hz b i) (fun _ _ => rfl) (c1.trans (Fr.of wH)) (c2.mono wH)
end
end K65
namespace K65
open PySem PySem.Spec PyProof.Rows L2
/-! ### _law_line -/
/-- all but lists stay -/
def NL (H H' : Hp) : Prop := ∀ b o, (∀ xs, o ≠ .lst xs) → H b = some o → H' b = some o
section
variable {H H' H1 H2 : Hp} {a sc p : Addr}
theorem NL.refl : NL H H := fun _ _ _ h => h
theorem NL.trans (s : NL H H1) (t : NL H1 H2) : NL H H2 := fun b o ho h => t b o ho (s b o ho h)
theorem NL.same (s : Same H H') : NL H H' := fun b o _ h => s b o h
theorem NL.lst {xs : List V} {o : HO} (h : H p = some (.lst xs)) : NL H (upd H p o) := fun b u hu hb => by
  rw [upd_ne (fun z => by rw [z, h] at hb; exact hu xs (Option.some.inj hb).symm)]
  exact hb
theorem NL.st (st : St a sc H) (s : Fr [a] H H') : NL H H' := fun b o ho hb => s.keep (fun z => by
  obtain ⟨n, i, sd, scr, e1, _⟩ := st
  rw [List.mem_singleton.mp z, e1] at hb
  exact ho _ (Option.some.inj hb).symm) hb
theorem NL.tups (s : NL H H') : Tups H H' := fun b xs h => s b _ (fun _ z => by cases z) h
theorem IsStp.nl (s : NL H H') {e : Stp} {v : V} (h : IsStp H e v) : IsStp H' e v := by
  obtain ⟨p, q, r, d, kvs, e, h1, h2, h3, h4, h5⟩ := h
  exact ⟨p, q, r, d, kvs, e, s.tups _ _ h1, s.tups _ _ h2, s.tups _ _ h3, s _ _ (fun _ z => by cases z) h4, h5.mono s.tups⟩
theorem IsMod.nl (s : NL H H') {M : Mdl} {v : V} (h : IsMod H M v) : IsMod H' M v := by
  obtain ⟨p, d, kvs, e, h1, h2, h3⟩ := h
  refine ⟨p, d, kvs, e, s.tups _ _ h1, s _ _ (fun _ z => by cases z) h2, fun f hf => ?_⟩
  obtain ⟨x, e1, td, tvs, e2, h4, h5⟩ := h3 f hf
  exact ⟨x, e1, td, tvs, e2, s _ _ (fun _ z => by cases z) h4, h5⟩
theorem A2.stpsN (s : NL H H') {l : List Stp} {vs : List V} (h : A2 (IsStp H) l vs) : A2 (IsStp H') l vs := h.imp fun _ _ z => z.nl s
/-- the operations' list is not touched -/
theorem IsOps.keep {ops : List Op} {o : Addr} (h : IsOps H ops o) (s : NL H H') (k : ∀ xs, H o = some (.lst xs) → H' o = some (.lst xs)) : IsOps H' ops o := by
  obtain ⟨os, h1, h2⟩ := h
  exact ⟨os, k _ h1, h2.imp fun _ _ z => z.mono s.tups⟩
end
/-- a stage whose steps lie at q -/
def IsStgAt (H : Hp) (s : Stg) (v : V) (q : Addr) : Prop := ∃ p x y ss, v = .ref p ∧ H p = some (.tup [x, y, .ref q]) ∧ IsTm H s.l x ∧ IsTm H s.r y ∧ H q = some (.lst ss) ∧ A2 (IsStp H) s.steps ss
theorem IsStgAt.stg {H : Hp} {s : Stg} {v : V} {q : Addr} (h : IsStgAt H s v q) : IsStg H s v := by
  obtain ⟨p, x, y, ss, e, h1, h2, h3, h4, h5⟩ := h
  exact ⟨p, x, y, q, ss, e, h1, h2, h3, h4, h5⟩
def szL : Nat → Nat
  | 0 => 13
  | i + 1 => 5 * szL i + 12
theorem szL_2 {i : Nat} (h : i < 3) : szL i ≤ 400 := by
  have e : i = 0 ∨ i = 1 ∨ i = 2 := by omega
  rcases e with e | e | e <;> subst e <;> decide
theorem szL_3 {i : Nat} (h : i ≤ 3) : szL i ≤ 2000 := by
  have e : i = 0 ∨ i = 1 ∨ i = 2 ∨ i = 3 := by omega
  rcases e with e | e | e | e <;> subst e <;> decide
/-- a stage that the law has built, its given equations beginning at `given` -/
structure LineOk (ops : List Op) (M : Mdl) (given more : List Eqn) (s : Stg) : Prop where
  gs : GoodStg s
  dl : Drawn ops 3 s.l
  dr : Drawn ops 3 s.r
  ge : ∀ e ∈ more, GoodEq e ∧ HoldsIn M e.1 e.2
  ml : more.length ≤ 3
  ok : ∀ G E, visit (given ++ more ++ G) E s.l s.steps = some s.r
section
variable {P : Program} {w : World} {K : PySem.W.Frag} {mg : Str → Option Value} {base : Heap}
@[irreducible] def spLine : Sp := fun vs H Q _ => ∃ a sc o ops M m g gs given k, vs = [.ref a, .ref o, m, .ref g, .int ((k : Nat) : Int)] ∧ k ≤ 3 ∧ St a sc H ∧ GoodOps ops ∧ IsOps H ops o ∧ M.fs = ops.map (·.1) ∧ GoodM M ∧ IsMod H M m ∧ g ≠ a ∧ g ≠ sc ∧ g ≠ o ∧ H g = some (.lst gs) ∧ A2 (IsEq H) given gs ∧ given.length ≤ 1000 ∧
  ∀ v q s more gs' H', H q = none → IsStgAt H' s v q → LineOk ops M given more s → H' g = some (.lst gs') → A2 (IsEq H') (given ++ more) gs' → Fr [a, g] H H' → NL H H' → St a sc H' → Q v H'
theorem spLine.i {H : Hp} {Q : VK} {E : XK} {a sc o g : Addr} {ops : List Op} {M : Mdl} {m : V} {gs : List V} {given : List Eqn} {k : Nat} (h0 : k ≤ 3) (h1 : St a sc H) (h2 : GoodOps ops) (h3 : IsOps H ops o) (hf : M.fs = ops.map (·.1)) (hM : GoodM M) (hm : IsMod H M m) (ga : g ≠ a) (gc : g ≠ sc) (go : g ≠ o) (hg : H g = some (.lst gs)) (hgs : A2 (IsEq H) given gs) (hl : given.length ≤ 1000)
    (c : ∀ v q s more gs' H', H q = none → IsStgAt H' s v q → LineOk ops M given more s → H' g = some (.lst gs') → A2 (IsEq H') (given ++ more) gs' → Fr [a, g] H H' → NL H H' → St a sc H' → Q v H') : spLine [.ref a, .ref o, m, .ref g, .int (k : Int)] H Q E := by
  unfold spLine
  exact ⟨a, sc, o, ops, M, m, g, gs, given, k, rfl, h0, h1, h2, h3, hf, hM, hm, ga, gc, go, hg, hgs, hl, c⟩
theorem c_line (T : TopF K mg) : Cal P w K mg base CX0 17 "_law_line" ["_law_state_here", "_law_operations_here", "_law_model_here", "_law_given", "_law_many"] spLine := by
  refine k_L_line T (fun vs H Q E h => by unfold spLine at h; obtain ⟨_, _, _, _, _, _, _, _, _, _, rfl, _⟩ := h; rfl) (fun cdv A outer s H vs Q E hr h => ?_)
  unfold spLine at h
  obtain ⟨a, sc, o, ops, M, m, g, gs, given, kk, rfl, hkk, hst, hgo, ho, hMf, hM, hm, hga, hgc, hgno, hg, hgs, hgl, k⟩ := h
  refine ⟨_, pss_cons (ps_set (i := 5) sc_L_line.nd rfl (Or.inl rfl) (pe_cal (c_term T 3) (hr.mono (by omega)) rfl pass0 (pa_cons (pv 0) (pa_cons (pv 1) (pa_cons pe_int (pa_cons pe_int pa_nil))))))
    (pss_cons (ps_set (i := 6) sc_L_line.nd rfl (Or.inl rfl) (pv 5))
    (pss_cons (ps_set (i := 7) sc_L_line.nd rfl (Or.inl rfl) (pe_lst pa_nil))
    (pss_cons (ps_for PassesOwn.never rfl (pi_range1 rfl T.z_range (pa_cons (pv 4) pa_nil)) (pg_name (i := 8) sc_L_line.nd rfl (Or.inl rfl))
      (pss_cons (ps_asg (pe_cal (c_ltrue T) hr rfl pass0 (pa_cons (pv 0) (pa_cons (pv 1) (pa_cons (pv 2) (pa_cons (pv 5) (pa_cons (pe_tup (pa_cons pe_str (pa_cons (pe_callB call_len rfl T.z_len (by decide +kernel) (pa_cons (pv 3) pa_nil)) pa_nil))) pa_nil)))))) (pg_tup rfl (pgs_cons (pg_name (i := 9) sc_L_line.nd rfl (Or.inl rfl)) (pgs_cons (pg_name (i := 10) sc_L_line.nd rfl (Or.inl rfl)) (pgs_cons (pg_name (i := 5) sc_L_line.nd rfl (Or.inl rfl)) pgs_nil)))))
      (pss_cons (ps_expr (pe_bm PySem.F.plainAttrs_list PySem.F.slot_list_append PySem.F.type_list_append mt_append (pv 3) (pa_cons (pv 9) pa_nil)))
      (pss_one (ps_expr (pe_bm PySem.F.plainAttrs_list PySem.F.slot_list_append PySem.F.type_list_append mt_append (pv 7) (pa_cons (pv 10) pa_nil)))))))
    (pss_one (ps_ret (pe_tup (pa_cons (pv 6) (pa_cons (pv 5) (pa_cons (pv 7) pa_nil))))))))), ?_⟩
  have hoa := ho.ne hgo hst
  refine rd_let (rd_call4 (rd_var rfl (rd_var rfl (rd_c (rd_c (spTerm.i (c := 3) (h := 2) (by decide) (by decide) hst hgo ho fun x0 t0 H1 hx0 td tz tD f1 s1 => ?_))))))
  refine rd_let (rd_var rfl (rd_let (rd_lst0 fun q nq => ?_)))
  have n1 := NL.st hst f1
  have s2 : Same H1 (upd H1 q (.lst [])) := Same.new nq _
  have n2 := n1.trans (NL.same s2)
  obtain ⟨qa, qc⟩ := s1.ne nq
  have qH : H q = none := hst.fresh f1 s1 nq
  have hg1 : H1 g = some (.lst gs) := f1.keep (fun z => hga (List.mem_singleton.mp z)) hg
  have qg : q ≠ g := fun z => by rw [z, hg1] at nq; cases nq
  have fr2 : Fr [a, g] H (upd H1 q (.lst [])) := (f1.more (fun b hb => by rw [List.mem_singleton.mp hb]; exact List.mem_cons_self)).trans (Fr.new nq)
  have oM : o ∉ [a, g] := fun z => by
    rcases List.mem_cons.mp z with e | z
    · exact hoa e
    · exact hgno (List.mem_singleton.mp z).symm
  have ops' : ∀ {H' : Hp}, Fr [a, g] H H' → NL H H' → IsOps H' ops o := fun fr nl => ho.keep nl fun xs hx => fr.keep oM hx
  have z4 : t0.size ≤ 13 := tz
  refine rd_seq (rd_for (rd_rng1 (rd_cons1 (rd_var rfl ⟨(kk : Int), rfl, by omega, by omega, ?_⟩))))
  rw [show ((kk : Nat) : Int).toNat = kk from Int.toNat_natCast _]
  refine for_range (lo := 0) (n := kk) (fun j σ H' => ∃ z8 z9 z10 xt t steps ss more gs', σ = [some (.ref a), some (.ref o), some m, some (.ref g), some (.int (kk : Int)), some xt, some x0, some (.ref q), z8, z9, z10] ∧ Fr [a, g] H H' ∧ NL H H' ∧ St a sc H' ∧ IsTm H' t xt ∧ IsTm H' t0 x0 ∧ H' q = some (.lst ss) ∧ A2 (IsStp H') steps ss ∧ H' g = some (.lst gs') ∧ A2 (IsEq H') (given ++ more) gs' ∧
      Drawn ops 3 t ∧ t.depth ≤ 3 + 3 * j ∧ t.size ≤ szL j ∧ steps.length ≤ j ∧ (∀ s ∈ steps, GoodStp s) ∧ more.length ≤ j ∧ (∀ e ∈ more, GoodEq e ∧ HoldsIn M e.1 e.2) ∧ ∀ G E, visit (given ++ more ++ G) E t0 steps = some t)
    ⟨_, _, _, x0, t0, [], [], [], gs, rfl, fr2, n2, s1.upd qa qc, hx0.mono (Tups.same s2), hx0.mono (Tups.same s2), upd_same, A2.nil, s2 _ _ hg1, by rw [List.append_nil]; exact hgs.eqs n2.tups, tD, td, z4, Nat.le_refl _, (fun _ z => (by cases z)), Nat.le_refl _, (fun _ z => (by cases z)), fun G E => rfl⟩ ?_ ?_
  · rintro j σ H3 hj ⟨z8, z9, z10, xt, t, steps, ss, more, gs', rfl, c1, c2, c3, c4, c5, c6, c7, c8, c9, c10, c11, c12, c13, c14, c15, c16, c17⟩
    have hgl' := c9.len
    refine rd_name (rd_seq (rd_asg (rd_call5 (rd_var rfl (rd_var rfl (rd_var rfl (rd_var rfl (rd_tup (rd_cons2 (rd_c (rd_B1 (rd_var rfl ⟨_, _, rfl, .inl ⟨_, sql c8, rfl⟩, ln_ok, fun src ns => ?_⟩))))))))))))
    rw [hgl']
    have u4 : Same H3 (upd H3 src (.tup [.str "given", .int (((given ++ more).length : Nat) : Int)])) := Same.new ns _
    have f4 := c1.trans (Fr.of u4)
    have n4 := c2.trans (NL.same u4)
    refine spLTrue.i (b := true) (i := (given ++ more).length) (c3.mono u4) hgo (ops' f4 n4) hMf hM (hm.nl n4) (c4.mono (Tups.same u4)) c10 (by omega) (Nat.le_trans c12 (szL_2 (by omega))) upd_same fun p ev sv uv e st u H5 hp he hs hu ds hh f5 s5 => ?_
    have n45 := NL.st (c3.mono u4) f5
    have n35 := (NL.same u4).trans n45
    have f35 : Fr [a, g] H H5 := f4.trans (f5.more (fun b hb => by rw [List.mem_singleton.mp hb]; exact List.mem_cons_self))
    have g5 : H5 g = some (.lst gs') := f5.keep (fun z => hga (List.mem_singleton.mp z)) (u4 _ _ c8)
    have q5 : H5 q = some (.lst ss) := f5.keep (fun z => qa (List.mem_singleton.mp z)) (u4 _ _ c6)
    have hlg : gs'.length ≤ 1003 := by rw [hgl', List.length_append]; omega
    have hls := c7.len
    refine rd_unl3 rfl hp (rd_nx (rd_seq (rd_app rfl g5 (rd_var rfl (rd_app' g5 (by omega) (rd_nx (rd_app rfl (by rw [upd_ne qg]; exact q5) (rd_var rfl (rd_app' (by rw [upd_ne qg]; exact q5) (by omega) ?_)))))))))
    have n6 : NL H5 (upd H5 g (.lst (gs' ++ [ev]))) := NL.lst g5
    have q6 : (upd H5 g (.lst (gs' ++ [ev]))) q = some (.lst ss) := by rw [upd_ne qg]; exact q5
    have n7 : NL (upd H5 g (.lst (gs' ++ [ev]))) (upd (upd H5 g (.lst (gs' ++ [ev]))) q (.lst (ss ++ [sv]))) := NL.lst q6
    have n57 := n6.trans n7
    have n37 := n35.trans n57
    have qM : no [a, g] H q = none := no_none qH
    refine ⟨_, _, _, uv, u, steps ++ [st], ss ++ [sv], more ++ [e], gs' ++ [ev], rfl, (f35.trans (Fr.mem (List.mem_cons_of_mem _ List.mem_cons_self))).mut qM, c2.trans n37, (s5.upd hga hgc).upd qa qc, hu.mono n57.tups, c5.mono n37.tups, upd_same, (c7.stpsN n37).app (A2.one (hs.nl n57)), by rw [upd_ne (Ne.symm qg), upd_same], ?_, ds.dr, ?_, ?_, ?_, fun s hs => ?_, ?_, fun e' he' => ?_, fun G E => ?_⟩
    · rw [← List.append_assoc]
      exact (c9.eqs n37.tups).app (A2.one (he.mono n57.tups))
    · have := ds.dep; omega
    · have := ds.siz
      show u.size ≤ 5 * szL j + 12
      omega
    · rw [List.length_append]; simp; omega
    · rcases List.mem_append.mp hs with z | z
      · exact c14 s z
      · rw [List.mem_singleton.mp z]; exact ds.gs
    · rw [List.length_append]; simp; omega
    · rcases List.mem_append.mp he' with z | z
      · exact c16 e' z
      · rw [List.mem_singleton.mp z]; exact ⟨ds.ge, hh⟩
    · rw [visit_snoc]
      have e1 : given ++ (more ++ [e]) ++ G = given ++ more ++ (e :: G) := by simp
      rw [e1, c17]
      refine ds.ok _ _ ?_
      unfold namedAt
      rw [if_pos rfl, List.getElem?_append_right (Nat.le_refl _)]
      simp
  · rintro σ H3 ⟨z8, z9, z10, xt, t, steps, ss, more, gs', rfl, c1, c2, c3, c4, c5, c6, c7, c8, c9, c10, c11, c12, c13, c14, c15, c16, c17⟩
    refine rd_nx (rd_ret (rd_tup (rd_cons3 (rd_var rfl (rd_var rfl (rd_var rfl ⟨ln_ok, fun p np => ?_⟩))))))
    have u4 : Same H3 (upd H3 p (.tup [x0, xt, .ref q])) := Same.new np _
    have z3 := szL_3 hkk
    exact k (.ref p) q ⟨t0, t, steps⟩ more gs' _ qH ⟨p, x0, xt, ss, rfl, upd_same, c5.mono (Tups.same u4), c4.mono (Tups.same u4), u4 _ _ c6, c7.stps u4⟩
      ⟨⟨lim_of hgo (by show t0.depth ≤ 12; omega) (by show t0.size ≤ 2500; omega) tD.in4 tD.fs, lim_of hgo (by show t.depth ≤ 12; omega) (by show t.size ≤ 2500; omega) c10.in4 c10.fs, by show steps.length ≤ 1000; omega, c14⟩, tD, c10, c16, by omega, c17⟩
      (u4 _ _ c8) (c9.eqs (Tups.same u4)) (c1.trans (Fr.of u4)) (c2.trans (NL.same u4)) (c3.mono u4)
end
end K65
namespace K65
open PySem PySem.Spec PyProof.Rows L2
/-! ### each variable bound to itself; _law_by_stage -/
def idSub (ns : List Int) : Sub := ns.map fun n => (n, Tm.v n)
theorem idSub_keys {ns : List Int} : (idSub ns).map (·.1) = ns := by
  unfold idSub
  rw [List.map_map]
  exact List.map_id _
theorem for_ident {K : PySem.W.Frag} {D : Ends} {σ : L2.St} {H : Hp} {i j : Nat} {d b : Addr} {ns : List Int} (hij : j ≠ i) (hi : σ[i]? = some (some (.ref d))) (hj : ∃ z, σ[j]? = some z) (hbd : b ≠ d) (hb : H b = some (.lst (ns.map V.int))) (hd : H d = some (.dK [])) (hnd : ns.Nodup) (hlen : ns.length ≤ 100000)
    (q : ∀ z kvs H', (∀ b o, b ≠ d → H b = some o → H' b = some o) → H' d = some (.dK kvs) → IsSub H' (idSub ns) kvs → D.nx (σ.set j z) H') :
    ∃ W : Nat → Nat → L2.St → Hp → Prop, (∃ m, W 0 m σ H) ∧ ∀ i' m σ H, W i' m σ H →
      ((Itl K b).stop i' H ∧ D.nx σ H) ∨ ((Itl K b).go i' H ∧ ∃ N : L2.St → Hp → Prop, (∀ σ' H', N σ' H' → ∃ m', m' < m ∧ W (i' + 1) m' σ' H') ∧ ∀ x H', (Itl K b).yld i' H x H' → gName j x σ H' fun σ2 H2 =>
        (sDPut (tVar i) (tVar j) (tVar j)) { D with nx := N, ct := N, bk := D.nx } σ2 H2) := by
  obtain ⟨z0, hz0⟩ := hj
  obtain ⟨hjl, ez0⟩ := List.getElem?_eq_some_iff.mp hz0
  have si : ∀ z, (σ.set j z)[i]? = some (some (.ref d)) := fun z => (List.getElem?_set_ne hij).trans hi
  have sj : ∀ z, (σ.set j z)[j]? = some z := fun z => List.getElem?_set_self hjl
  refine for_list (K := K) (a := b) (xs := ns.map V.int) (fun k σ' H' => ∃ z kvs, σ' = σ.set j z ∧ (∀ b o, b ≠ d → H b = some o → H' b = some o) ∧ H' d = some (.dK kvs) ∧ IsSub H' (idSub (ns.take k)) kvs)
    ⟨z0, [], by rw [← ez0, List.set_getElem_self], fun _ _ _ h => h, hd, rfl⟩ (fun k σ' H' _ hh => ?_) ?_ ?_
  · obtain ⟨z, kvs, rfl, s1, _⟩ := hh
    exact sql (s1 _ _ hbd hb)
  · rintro k y σ' H' hk ⟨z, kvs, rfl, s1, s2, s3⟩
    obtain ⟨n, hn, rfl⟩ : ∃ n, ns[k]? = some n ∧ y = .int n := by
      rw [List.getElem?_map] at hk
      cases e : ns[k]? with
      | none => rw [e] at hk; cases hk
      | some n => rw [e] at hk; exact ⟨n, rfl, (Option.some.inj hk).symm⟩
    have hkl := (List.getElem?_eq_some_iff.mp hn).1
    have hnew : n ∉ (idSub (ns.take k)).map (·.1) := by
      rw [idSub_keys]
      intro z
      have h1 := hnd
      rw [← List.take_append_drop k ns] at h1
      refine (List.nodup_append.mp h1).2.2 _ z n ?_ rfl
      rw [List.drop_eq_getElem_cons hkl, (List.getElem?_eq_some_iff.mp hn).2]
      exact List.mem_cons_self
    have hlk := s3.len
    have hle : (idSub (ns.take k)).length ≤ ns.length := by
      unfold idSub
      rw [List.length_map, List.length_take]
      omega
    have z3 := sub_put (n := n) (t := .v n) (x := .int n) s2 s3 hnew rfl
    refine rd_name ?_
    rw [List.set_set]
    refine rd_dput (rd_var (sj _) (rd_var (si _) (rd_var (sj _) ⟨d, _, rfl, DPut.k (k := (.inl n : Key)) s2 (by rw [hlk, sizeLine_eq]; omega), _, _, rfl, fun b' o hb' ho => ?_, upd_same, ?_⟩)))
    · rw [upd_ne hb']; exact s1 b' o hb' ho
    · have e : idSub (ns.take (k + 1)) = idSub (ns.take k) ++ [(n, .v n)] := by
        rw [take_succ' hn]
        unfold idSub
        rw [List.map_append]
        rfl
      rw [e]
      exact z3
  · rintro σ' H' ⟨z, kvs, rfl, s1, s2, s3⟩
    rw [List.length_map, List.take_length] at s3
    exact q z kvs H' s1 s2 s3
theorem idSub_good {ops : List Op} (g : GoodOps ops) {l r : Tm} {ns : List Int} (lv : LV2 l r ns) (hl : In4 l) (hr : In4 r) : (idSub ns).length ≤ 60 ∧ ∀ p ∈ idSub ns, Lim p.2 := by
  have h4 := four lv.nd fun n hn => ((lv.mem n).mp hn).elim (hl n) (hr n)
  refine ⟨by unfold idSub; rw [List.length_map]; omega, fun p hp => ?_⟩
  obtain ⟨n, hn, rfl⟩ := List.mem_map.mp hp
  have hn4 := ((lv.mem n).mp hn).elim (hl n) (hr n)
  refine lim_of g (by show 1 ≤ 12; decide) (by show 1 ≤ 2500; decide) (fun m hm => ?_) ofs_v
  rcases List.mem_cons.mp hm with e | e
  · rw [Sum.inl.inj e]; exact hn4
  · cases e
/-- a stage by an earlier one -/
theorem by_ok {G : List Eqn} {E : List Stg} {j : Nat} {sj : Stg} {ns : List Int} (hj : E[j]? = some sj) (lv : LV2 sj.l sj.r ns) (hb : Big sj.l ∧ Big sj.r) (fw : Bool) :
    leadsB G E (if fw = true then ⟨sj.l, sj.r, [⟨false, j, true, [], idSub ns⟩]⟩ else ⟨sj.r, sj.l, [⟨false, j, false, [], idSub ns⟩]⟩) = true := by
  have idl : ∀ t : Tm, t.subst (idSub ns) = t := fun t => subst_id fun n _ => by
    by_cases h : n ∈ ns
    · exact .inl (lookup_self h)
    · exact .inr (lookup_none' (by rw [idSub_keys]; exact h))
  have bd : bindsB (idSub ns) sj.l sj.r = true := by
    unfold bindsB
    rw [idSub_keys]
    refine decide_eq_true ⟨lv.nd, fun n hn => ?_, fun n hn => ?_⟩
    · rw [List.mem_append, Tm.mem_vars, Tm.mem_vars]; exact (lv.mem n).mp hn
    · rw [List.mem_append, Tm.mem_vars, Tm.mem_vars] at hn; exact (lv.mem n).mpr hn
  have e0 : ∀ t u : Tm, t.repl [] u = u := fun t u => by cases t <;> rfl
  have s0 : ∀ t : Tm, t.sub [] = some t := fun t => by cases t <;> rfl
  have nm : namedAt G E false j = some (sj.l, sj.r) := by
    unfold namedAt
    rw [if_neg (by decide), hj]
    rfl
  have key : ∀ fw : Bool, stepTm G E (if fw = true then sj.l else sj.r) ⟨false, j, fw, [], idSub ns⟩ = some (if fw = true then sj.r else sj.l) := fun fw => by
    have := step_ok (s := ⟨false, j, fw, [], idSub ns⟩) (e := (sj.l, sj.r)) (t := if fw = true then sj.l else sj.r) (x := if fw = true then sj.l else sj.r) nm bd (s0 _) (by
      show _ = (sideO (sj.l, sj.r) fw).subst (idSub ns)
      rw [idl]
      rfl) (by
      show ((if fw = true then sj.l else sj.r).repl [] ((sideO (sj.l, sj.r) !fw).subst (idSub ns))).wide = false
      rw [e0, idl]
      cases fw with
      | true => exact not_wide hb.2.d hb.2.z
      | false => exact not_wide hb.1.d hb.1.z)
    rw [this]
    show some ((if fw = true then sj.l else sj.r).repl [] ((sideO (sj.l, sj.r) !fw).subst (idSub ns))) = _
    rw [e0, idl]
    cases fw <;> rfl
  unfold leadsB
  cases fw with
  | true =>
    have k := key true
    simp only [if_true] at k ⊢
    show (match (stepTm G E sj.l ⟨false, j, true, [], idSub ns⟩).bind (fun u => some u) with | none => false | some u => decide (u = sj.r)) = true
    rw [k]
    exact decide_eq_true rfl
  | false =>
    have k := key false
    simp only [Bool.false_eq_true, if_false] at k ⊢
    show (match (stepTm G E sj.r ⟨false, j, false, [], idSub ns⟩).bind (fun u => some u) with | none => false | some u => decide (u = sj.l)) = true
    rw [k]
    exact decide_eq_true rfl
theorem bigs {ops : List Op} {s : Stg} (h : GoodStg s) : Big s.l ∧ Big s.r := ⟨h.l.big, h.r.big⟩
section
variable {P : Program} {w : World} {K : PySem.W.Frag} {mg : Str → Option Value} {base : Heap}
@[irreducible] def spBy : Sp := fun vs H Q _ => ∃ a sc ops sl ss stages x y z, vs = [.ref a, .ref sl, x, y, z] ∧ St a sc H ∧ GoodOps ops ∧ sl ≠ a ∧ H sl = some (.lst ss) ∧ A2 (IsStg H) stages ss ∧ stages ≠ [] ∧ stages.length ≤ 100 ∧ (∀ s ∈ stages, GoodStg s ∧ Drawn ops 3 s.l ∧ Drawn ops 3 s.r) ∧
  ∀ v q s H', H q = none → IsStgAt H' s v q → GoodStg s → Drawn ops 3 s.l → Drawn ops 3 s.r → (∀ G, leadsB G stages s = true) → Fr [a] H H' → St a sc H' → Q v H'
theorem spBy.i {H : Hp} {Q : VK} {E : XK} {a sc sl : Addr} {ops : List Op} {ss : List V} {stages : List Stg} {x y z : V} (h1 : St a sc H) (h2 : GoodOps ops) (h3 : sl ≠ a) (h4 : H sl = some (.lst ss)) (h5 : A2 (IsStg H) stages ss) (h6 : stages ≠ []) (h7 : stages.length ≤ 100) (h8 : ∀ s ∈ stages, GoodStg s ∧ Drawn ops 3 s.l ∧ Drawn ops 3 s.r)
    (k : ∀ v q s H', H q = none → IsStgAt H' s v q → GoodStg s → Drawn ops 3 s.l → Drawn ops 3 s.r → (∀ G, leadsB G stages s = true) → Fr [a] H H' → St a sc H' → Q v H') : spBy [.ref a, .ref sl, x, y, z] H Q E := by
  unfold spBy
  exact ⟨a, sc, ops, sl, ss, stages, x, y, z, rfl, h1, h2, h3, h4, h5, h6, h7, h8, k⟩
theorem c_by (T : TopF K mg) : Cal P w K mg base CX0 14 "_law_by_stage" ["_law_state_here", "_law_stages", "_law_left", "_law_right", "_law_steps"] spBy := by
  refine k_L_by_stage T (fun vs H Q E h => by unfold spBy at h; obtain ⟨_, _, _, _, _, _, _, _, _, rfl, _⟩ := h; rfl) (fun cdv A outer s H vs Q E hr h => ?_)
  unfold spBy at h
  obtain ⟨a, sc, ops, sl, ss, stages, x, y, z, rfl, hst, hgo, hsla, hsl, hss, hne, hsn, hgd, k⟩ := h
  refine ⟨_, pss_cons (ps_set (i := 5) sc_L_by_stage.nd rfl (Or.inl rfl) (pe_cal (c_draw T) (hr.mono (by omega)) rfl pass0 (pa_cons (pv 0) (pa_cons (pe_callB call_len rfl T.z_len (by decide +kernel) (pa_cons (pv 1) pa_nil)) pa_nil))))
    (pss_cons (ps_asg (pe_ix ix_list (pv 1) (pv 5) (fun _ _ => rfl)) (pg_tup rfl (pgs_cons (pg_name (i := 6) sc_L_by_stage.nd rfl (Or.inl rfl)) (pgs_cons (pg_name (i := 7) sc_L_by_stage.nd rfl (Or.inl rfl)) (pgs_cons (pg_name (i := 8) sc_L_by_stage.nd rfl (Or.inl rfl)) pgs_nil)))))
    (pss_cons (ps_set (i := 9) sc_L_by_stage.nd rfl (Or.inl rfl) pe_dnewK)
    (pss_cons (ps_for PassesOwn.never rfl (pi_list (pe_cal (c_eqN T 12) hr rfl pass0 (pa_cons (pv 6) (pa_cons (pv 7) pa_nil)))) (pg_name (i := 10) sc_L_by_stage.nd rfl (Or.inl rfl))
      (pss_one (ps_dput (hu_of hr) (pv 9) (pv 10) (pv 10) rfl)))
    (pss_cons (ps_if (pt_cmpR op_eq (pe_cal (c_draw T) (hr.mono (by omega)) rfl pass0 (pa_cons (pv 0) (pa_cons pe_int pa_nil))) pe_int (nomark _))
      (pss_one (ps_ret (pe_tup (pa_cons (pv 6) (pa_cons (pv 7) (pa_cons (pe_lst (pa_cons (pe_tup (pa_cons (pe_tup (pa_cons pe_str (pa_cons (pv 5) pa_nil))) (pa_cons pe_bl (pa_cons (pe_tup pa_nil) (pa_cons (pv 9) pa_nil))))) pa_nil)) pa_nil)))))) pss_nil)
    (pss_one (ps_ret (pe_tup (pa_cons (pv 7) (pa_cons (pv 6) (pa_cons (pe_lst (pa_cons (pe_tup (pa_cons (pe_tup (pa_cons pe_str (pa_cons (pv 5) pa_nil))) (pa_cons pe_bl (pa_cons (pe_tup pa_nil) (pa_cons (pv 9) pa_nil))))) pa_nil)) pa_nil)))))))))), ?_⟩
  have hwl := hss.len
  have hpos : 0 < stages.length := List.length_pos_iff.mpr hne
  refine rd_let (rd_call2 (rd_var rfl (rd_B1 (rd_var rfl ⟨_, _, rfl, .inl ⟨_, sql hsl, rfl⟩, spDraw.i (by omega) (by omega) hst fun j H1 hj f1 s1 => ?_⟩))))
  have t1 := tups_st hst f1
  have hsl1 : H1 sl = some (.lst ss) := f1.keep (fun z => hsla (List.mem_singleton.mp z)) hsl
  have hj' : j < stages.length := by omega
  obtain ⟨v, hv, hstg⟩ := hss.nth (List.getElem?_eq_getElem hj')
  obtain ⟨gsj, dlj, drj⟩ := hgd _ (List.getElem_mem hj')
  have hgj : stages[j]? = some stages[j] := List.getElem?_eq_getElem hj'
  generalize stages[j] = sj at hstg gsj dlj drj hgj
  obtain ⟨p, x1, x2, qj, us, rfl, hp, h1, h2, _⟩ := hstg
  refine rd_seq (rd_asg (rd_ixLv rfl rfl hsl1 (atI_nat hv) (rd_unl3 rfl (t1 _ _ hp) ?_)))
  refine rd_nx (rd_let (rd_dnewK fun d nd => ?_))
  have u1 : Same H1 (upd H1 d (.dK [])) := Same.new nd _
  obtain ⟨da, dsc⟩ := s1.ne nd
  have dH : H d = none := hst.fresh f1 s1 nd
  have t2 := t1.trans (Tups.same u1)
  refine rd_seq (rd_for (rd_iList (rd_call2 (rd_var rfl (rd_var rfl (spEqN.i (h1.mono t2) (h2.mono t2) gsj.l.d (Nat.le_trans gsj.l.z (by decide)) gsj.r.d (Nat.le_trans gsj.r.z (by decide)) fun b ns H2 nb s2 hb lv => ⟨b, rfl, ⟨_, sql hb⟩, ?_⟩))))))
  have hbd : b ≠ d := fun z => by rw [z, upd_same] at nb; cases nb
  refine for_ident (i := 9) (j := 10) (by decide) rfl ⟨_, rfl⟩ hbd hb (s2 _ _ upd_same) lv.nd (Nat.le_trans lv.len (by have := gsj.l.z; have := gsj.r.z; omega)) fun z10 kvs H3 k3 hd3 hs3 => ?_
  have u13 : ∀ b o, H1 b = some o → H3 b = some o := fun b' o ho => k3 b' o (ne_of_none ho nd) (s2 _ _ (u1 _ _ ho))
  have f3 : Fr [a] H H3 := f1.trans (Fr.of u13)
  have st3 : St a sc H3 := s1.mono u13
  refine rd_nx (rd_when1 (rd_test (rd_op (rd_call2 (rd_var rfl (rd_c (spDraw.i (by decide) (by decide) st3 fun n H4 hn f4 s4 => ⟨rfl, _, rfl, ?_⟩)))))))
  have t4 := tups_st st3 f4
  have hd4 : H4 d = some (.dK kvs) := f4.keep (fun z => da (List.mem_singleton.mp z)) hd3
  have hs4 := hs3.mono t4
  have t14 : Tups H H4 := (t1.trans (fun b xs h => u13 b _ h)).trans t4
  have f04 := f3.trans f4
  have hgood := idSub_good hgo lv dlj.in4 drj.in4
  have fin : ∀ (fw : Bool) (xa xb : V), IsTm H4 (if fw = true then sj.l else sj.r) xa → IsTm H4 (if fw = true then sj.r else sj.l) xb →
      ∀ p1, H4 p1 = none → ∀ e, (upd H4 p1 (.tup [.str "stage", .int (j : Int)])) e = none → ∀ p2, (upd (upd H4 p1 (.tup [.str "stage", .int (j : Int)])) e (.tup [])) p2 = none →
      ∀ l, (upd (upd (upd H4 p1 (.tup [.str "stage", .int (j : Int)])) e (.tup [])) p2 (.tup [.ref p1, .bl fw, .ref e, .ref d])) l = none →
      ∀ r, (upd (upd (upd (upd H4 p1 (.tup [.str "stage", .int (j : Int)])) e (.tup [])) p2 (.tup [.ref p1, .bl fw, .ref e, .ref d])) l (.lst [.ref p2])) r = none →
      Q (.ref r) (upd (upd (upd (upd (upd H4 p1 (.tup [.str "stage", .int (j : Int)])) e (.tup [])) p2 (.tup [.ref p1, .bl fw, .ref e, .ref d])) l (.lst [.ref p2])) r (.tup [xa, xb, .ref l])) := fun fw xa xb ha hb p1 n1 e n2 p2 n3 l n4 r n5 => by
    have w1 : Same H4 (upd H4 p1 (.tup [.str "stage", .int (j : Int)])) := Same.new n1 _
    have w2 : Same (upd H4 p1 (.tup [.str "stage", .int (j : Int)])) (upd (upd H4 p1 (.tup [.str "stage", .int (j : Int)])) e (.tup [])) := Same.new n2 _
    have w3 : Same (upd (upd H4 p1 (.tup [.str "stage", .int (j : Int)])) e (.tup [])) (upd (upd (upd H4 p1 (.tup [.str "stage", .int (j : Int)])) e (.tup [])) p2 (.tup [.ref p1, .bl fw, .ref e, .ref d])) := Same.new n3 _
    have w4 : Same (upd (upd (upd H4 p1 (.tup [.str "stage", .int (j : Int)])) e (.tup [])) p2 (.tup [.ref p1, .bl fw, .ref e, .ref d])) (upd (upd (upd (upd H4 p1 (.tup [.str "stage", .int (j : Int)])) e (.tup [])) p2 (.tup [.ref p1, .bl fw, .ref e, .ref d])) l (.lst [.ref p2])) := Same.new n4 _
    have w5 : Same (upd (upd (upd (upd H4 p1 (.tup [.str "stage", .int (j : Int)])) e (.tup [])) p2 (.tup [.ref p1, .bl fw, .ref e, .ref d])) l (.lst [.ref p2])) (upd (upd (upd (upd (upd H4 p1 (.tup [.str "stage", .int (j : Int)])) e (.tup [])) p2 (.tup [.ref p1, .bl fw, .ref e, .ref d])) l (.lst [.ref p2])) r (.tup [xa, xb, .ref l])) := Same.new n5 _
    have w13 := (w1.trans w2).trans w3
    have w := (w13.trans w4).trans w5
    have lH : H l = none := by
      have z := w13.free n4
      exact hst.fresh f04 s4 z
    have hstp : IsStp (upd (upd (upd (upd (upd H4 p1 (.tup [.str "stage", .int (j : Int)])) e (.tup [])) p2 (.tup [.ref p1, .bl fw, .ref e, .ref d])) l (.lst [.ref p2])) r (.tup [xa, xb, .ref l])) ⟨false, j, fw, [], idSub ns⟩ (.ref p2) :=
      ⟨p2, p1, e, d, kvs, rfl, w5 _ _ (w4 _ _ upd_same), w5 _ _ (w4 _ _ (w3 _ _ (w2 _ _ upd_same))), w5 _ _ (w4 _ _ (w3 _ _ upd_same)), w _ _ hd4, hs4.mono (Tups.same w)⟩
    have gst : ∀ t ∈ [(⟨false, j, fw, [], idSub ns⟩ : Stp)], GoodStp t := fun t ht => by rw [List.mem_singleton.mp ht]; exact hgood
    have ok := fun G => by_ok (G := G) hgj lv ⟨gsj.l.big, gsj.r.big⟩ fw
    cases fw with
    | true => exact k (.ref r) l ⟨sj.l, sj.r, [⟨false, j, true, [], idSub ns⟩]⟩ _ lH ⟨r, xa, xb, [.ref p2], rfl, upd_same, ha.mono (Tups.same w), hb.mono (Tups.same w), w5 _ _ upd_same, A2.one hstp⟩ ⟨gsj.l, gsj.r, by show 1 ≤ 1000; decide, gst⟩ dlj drj ok (f04.trans (Fr.of w)) (s4.mono w)
    | false => exact k (.ref r) l ⟨sj.r, sj.l, [⟨false, j, false, [], idSub ns⟩]⟩ _ lH ⟨r, xa, xb, [.ref p2], rfl, upd_same, ha.mono (Tups.same w), hb.mono (Tups.same w), w5 _ _ upd_same, A2.one hstp⟩ ⟨gsj.r, gsj.l, by show 1 ≤ 1000; decide, gst⟩ drj dlj ok (f04.trans (Fr.of w)) (s4.mono w)
  split
  · exact rd_ret (rd_tup (rd_cons3 (rd_var rfl (rd_var rfl (rd_lst (rd_cons1 (rd_tup (rd_cons4 (rd_tup (rd_cons2 (rd_c (rd_var rfl ⟨ln_ok, fun p1 n1 => rd_c (rd_tup0 fun e n2 => rd_var rfl ⟨ln_ok, fun p2 n3 => ⟨ln_ok, fun l n4 => ⟨ln_ok, fun r n5 => fin true x1 x2 (h1.mono t14) (h2.mono t14) p1 n1 e n2 p2 n3 l n4 r n5⟩⟩⟩)⟩))))))))))))
  · exact rd_ret (rd_tup (rd_cons3 (rd_var rfl (rd_var rfl (rd_lst (rd_cons1 (rd_tup (rd_cons4 (rd_tup (rd_cons2 (rd_c (rd_var rfl ⟨ln_ok, fun p1 n1 => rd_c (rd_tup0 fun e n2 => rd_var rfl ⟨ln_ok, fun p2 n3 => ⟨ln_ok, fun l n4 => ⟨ln_ok, fun r n5 => fin false x2 x1 (h2.mono t14) (h1.mono t14) p1 n1 e n2 p2 n3 l n4 r n5⟩⟩⟩)⟩))))))))))))
end
end K65
namespace K65
open PySem PySem.Spec PyProof.Rows L2
/-! ### _law_spoilt, _law_refuses -/
theorem rd_notV {σ : L2.St} {H : Hp} {Q : VK} {i : Nat} {b : Bool} (hi : σ[i]? = some (some (.bl b))) (q : Q (.bl !b) H) : tNotV (tVar i) σ H Q := ⟨_, hi, _, rfl, q⟩
theorem cut_imp {A B : Prop} (h : A → B) (a : A) : B := h a
/-- xs[:k], xs[k + 1:] of a list -/
theorem rd_headL {K : PySem.W.Frag} {σ : L2.St} {H : Hp} {Q : VK} {i j k : Nat} {p : Addr} {xs : List V} (hi : σ[i]? = some (some (.ref p))) (hj : σ[j]? = some (some (pI k))) (hp : H p = some (.lst xs)) (hk : k ≤ xs.length) (q : ∀ r, H r = none → Q (.ref r) (upd H r (.lst (xs.take k)))) : tSl (rSlL K) (tVar i) tNoPart (tPart (tVar j)) σ H Q := by
  refine ⟨_, hi, _, hj, k, rfl, p, _, rfl, sql hp, fun r hr => ?_⟩
  rw [cut_hi hk]; exact q r hr
theorem rd_restL {K : PySem.W.Frag} {σ : L2.St} {H : Hp} {Q : VK} {i j k : Nat} {p : Addr} {xs : List V} (hi : σ[i]? = some (some (.ref p))) (hj : σ[j]? = some (some (pI k))) (hp : H p = some (.lst xs)) (hk : k < xs.length) (q : ∀ r, H r = none → Q (.ref r) (upd H r (.lst (xs.drop (k + 1))))) :
    tSl (rSlL K) (tVar i) (tPart (tOp (rI0 fun i j => .int (i + j)) (tVar j) (tC (.int 1)))) tNoPart σ H Q := by
  refine ⟨_, hi, _, hj, _, _, rfl, rfl, ((k + 1 : Nat) : Int), rfl, p, _, rfl, sql hp, fun r hr => ?_⟩
  rw [cut_lo (by omega)]; exact q r hr
/-- x[len(x) - 1] -/
theorem at_len {xs : List V} {v : V} (h : xs.getLast? = some v) : atI xs (((xs.length : Nat) : Int) - 1) = some v := by
  have hne : xs ≠ [] := fun e => by rw [e] at h; cases h
  have hp : 0 < xs.length := List.length_pos_iff.mpr hne
  rw [List.getLast?_eq_getElem?] at h
  have := atI_nat h
  rwa [show ((xs.length - 1 : Nat) : Int) = (xs.length : Int) - 1 by omega] at this
theorem A2.getLast {α : Type} {R : α → V → Prop} {l : List α} {vs : List V} (h : A2 R l vs) (hn : l ≠ []) : ∃ a v, l.getLast? = some a ∧ vs.getLast? = some v ∧ R a v := by
  have hl := h.len
  have e : l.getLast? = some (l.getLast hn) := List.getLast?_eq_some_getLast hn
  have e2 : l[l.length - 1]? = some (l.getLast hn) := by rw [← List.getLast?_eq_getElem?]; exact e
  obtain ⟨v, hv, r⟩ := h.nth e2
  exact ⟨_, v, e, by rw [List.getLast?_eq_getElem?, hl]; exact hv, r⟩
theorem A2.drop {α : Type} {R : α → V → Prop} : ∀ {l : List α} {vs : List V} (n : Nat), A2 R l vs → A2 R (l.drop n) (vs.drop n)
  | _, vs, 0, h => h
  | [], vs, n + 1, h => by rw [show vs = [] from h]; simp [A2]
  | a :: r, vs, n + 1, h => by
    obtain ⟨x, q, rfl, h1, h2⟩ := h
    exact A2.drop n h2
section
variable {P : Program} {w : World} {K : PySem.W.Frag} {mg : Str → Option Value} {base : Heap}
def GoodSt (ops : List Op) (s : Stg) : Prop := GoodStg s ∧ Drawn ops 3 s.l ∧ Drawn ops 3 s.r
@[irreducible] def spSpoilt : Sp := fun vs H Q _ => ∃ a sc o ops sl ss stages N, vs = [.ref a, .ref o, .ref sl] ∧ St a sc H ∧ GoodOps ops ∧ IsOps H ops o ∧ sl ≠ a ∧ H sl = some (.lst ss) ∧ a ∈ N ∧ (∀ b ∈ N, H b ≠ none) ∧ A2 (IsStg (no N H)) stages ss ∧ stages ≠ [] ∧ stages.length ≤ 100 ∧ (∀ s ∈ stages, GoodSt ops s) ∧
  ∀ v q s H', q ∉ N → IsStgAt H' s v q → GoodSt ops s → Fr [a] H H' → St a sc H' → Q v H'
theorem spSpoilt.i {H : Hp} {Q : VK} {E : XK} {a sc o sl : Addr} {ops : List Op} {ss : List V} {stages : List Stg} {N : List Addr} (h1 : St a sc H) (h2 : GoodOps ops) (ho : IsOps H ops o) (h3 : sl ≠ a) (h4 : H sl = some (.lst ss)) (ha : a ∈ N) (hN : ∀ b ∈ N, H b ≠ none) (h5 : A2 (IsStg (no N H)) stages ss) (h6 : stages ≠ []) (h7 : stages.length ≤ 100) (h8 : ∀ s ∈ stages, GoodSt ops s)
    (k : ∀ v q s H', q ∉ N → IsStgAt H' s v q → GoodSt ops s → Fr [a] H H' → St a sc H' → Q v H') : spSpoilt [.ref a, .ref o, .ref sl] H Q E := by
  unfold spSpoilt
  exact ⟨a, sc, o, ops, sl, ss, stages, N, rfl, h1, h2, ho, h3, h4, ha, hN, h5, h6, h7, h8, k⟩
theorem c_spoilt (T : TopF K mg) : Cal P w K mg base CX0 14 "_law_spoilt" ["_law_state_here", "_law_operations_here", "_law_stages"] spSpoilt := by
  refine k_L_spoilt T (fun vs H Q E h => by unfold spSpoilt at h; obtain ⟨_, _, _, _, _, _, _, _, rfl, _⟩ := h; rfl) (fun cdv A outer s H vs Q E hr h => ?_)
  unfold spSpoilt at h
  obtain ⟨a, sc, o, ops, sl, ss, stages, N, rfl, hst, hgo, ho, hsla, hsl, haN, hN, hss, hne, hsn, hgd, k⟩ := h
  have r13 : Room 13 (A.deeper (envOfC "_law_spoilt" (defScope s_L_spoilt) s.heap.objs.size (He.ga K "_law_spoilt") cdv)) := hr
  obtain ⟨tB, hB, qB⟩ : ∃ tB, PSs (cxOf CX0 P w K mg base ["_law_state_here", "_law_operations_here", "_law_stages", "_law_left", "_law_right", "_law_steps", "_law_kind", "_law_at", "_law_source", "_law_is_forward", "_law_position", "_law_bound", "_law_places"] "_law_spoilt" (defScope s_L_spoilt) (He.ga K "_law_spoilt") cdv A outer s H E).nox ((defBody s_L_spoilt).drop 3) tB ∧
      ∀ (x1 x2 : V) (q : Addr) (z6 z7 z8 z9 z10 z11 z12 : Option V) (sg : Stg) (us : List V) (H1 : Hp), Fr [a] H H1 → St a sc H1 → IsTm H1 sg.l x1 → IsTm H1 sg.r x2 → H1 q = some (.lst us) → A2 (IsStp H1) sg.steps us → q ∉ N → GoodSt ops sg →
        tB { nx := fun _ H' => Q .non H', rt := Q } [some (.ref a), some (.ref o), some (.ref sl), some x1, some x2, some (.ref q), z6, z7, z8, z9, z10, z11, z12] H1 := by
    refine ⟨_, pss_one (ps_ret (pe_tup (pa_cons (pv 3) (pa_cons (pv 4) (pa_cons (pv 5) pa_nil))))), fun x1 x2 q z6 z7 z8 z9 z10 z11 z12 sg us H1 f1 s1 h1 h2 h3 h4 h5 h6 => ?_⟩
    refine rd_ret (rd_tup (rd_cons3 (rd_var rfl (rd_var rfl (rd_var rfl ⟨ln_ok, fun p np => ?_⟩)))))
    have u : Same H1 (upd H1 p (.tup [x1, x2, .ref q])) := Same.new np _
    exact k _ q sg _ h5 ⟨p, x1, x2, us, rfl, upd_same, h1.mono (Tups.same u), h2.mono (Tups.same u), u _ _ h3, h4.stps u⟩ h6 (f1.trans (Fr.of u)) (s1.mono u)
  refine ⟨_, pss_cons (ps_asg (pe_ix ix_list (pv 2) (pe_op op_sub (pe_callB call_len rfl T.z_len (by decide +kernel) (pa_cons (pv 2) pa_nil)) pe_int) (fun _ _ => rfl)) (pg_tup rfl (pgs_cons (pg_name (i := 3) sc_L_spoilt.nd rfl (Or.inl rfl)) (pgs_cons (pg_name (i := 4) sc_L_spoilt.nd rfl (Or.inl rfl)) (pgs_cons (pg_name (i := 5) sc_L_spoilt.nd rfl (Or.inl rfl)) pgs_nil)))))
    (pss_cons (ps_set (i := 6) sc_L_spoilt.nd rfl (Or.inl rfl) (pe_cal (c_draw T) (r13.mono (by omega)) rfl pass0 (pa_cons (pv 0) (pa_cons pe_int pa_nil))))
    (pss_cons (ps_if (pt_cmpR op_eq (pv 6) pe_int (nomark _)) (pss_one (ps_set (i := 4) sc_L_spoilt.nd rfl (Or.inl rfl) (pe_cal (c_term T 3) (r13.mono (by omega)) rfl pass0 (pa_cons (pv 0) (pa_cons (pv 1) (pa_cons pe_int (pa_cons pe_int pa_nil)))))))
      (pss_one (ps_if (pt_cmpR op_eq (pv 6) pe_int (nomark _)) (pss_one (ps_set (i := 3) sc_L_spoilt.nd rfl (Or.inl rfl) (pe_cal (c_term T 3) (r13.mono (by omega)) rfl pass0 (pa_cons (pv 0) (pa_cons (pv 1) (pa_cons pe_int (pa_cons pe_int pa_nil)))))))
        (pss_one (ps_if (PW.pt (pw_and (pt_cmpR op_eq (pv 6) pe_int (nomark _)) (pw_and1 (pt_cmpR op_gt (pe_callB call_len rfl T.z_len (by decide +kernel) (pa_cons (pv 5) pa_nil)) pe_int (nomark _)))))
          (pss_cons (ps_set (i := 7) sc_L_spoilt.nd rfl (Or.inl rfl) (pe_cal (c_draw T) (r13.mono (by omega)) rfl pass0 (pa_cons (pv 0) (pa_cons (pe_callB call_len rfl T.z_len (by decide +kernel) (pa_cons (pv 5) pa_nil)) pa_nil))))
          (pss_cons (ps_asg (pe_ix ix_list (pv 5) (pv 7) (fun _ _ => rfl)) (pg_tup rfl (pgs_cons (pg_name (i := 8) sc_L_spoilt.nd rfl (Or.inl rfl)) (pgs_cons (pg_name (i := 9) sc_L_spoilt.nd rfl (Or.inl rfl)) (pgs_cons (pg_name (i := 10) sc_L_spoilt.nd rfl (Or.inl rfl)) (pgs_cons (pg_name (i := 11) sc_L_spoilt.nd rfl (Or.inl rfl)) pgs_nil))))))
          (pss_one (ps_set (i := 5) sc_L_spoilt.nd rfl (Or.inl rfl) (pe_op op_cat (pe_op op_cat (pe_slice sl_list (pv 5) po_none (po_some (pv 7))) (pe_lst (pa_cons (pe_tup (pa_cons (pv 8) (pa_cons (pe_not (pv 9)) (pa_cons (pv 10) (pa_cons (pv 11) pa_nil))))) pa_nil))) (pe_slice sl_list (pv 5) (po_some (pe_op op_add (pv 7) pe_int)) po_none))))))
          (pss_cons (ps_set (i := 12) sc_L_spoilt.nd rfl (Or.inl rfl) (pe_cal (c_positions T 12) (r13.mono (by omega)) rfl pass0 (pa_cons (pv 4) pa_nil)))
          (pss_cons (ps_set (i := 10) sc_L_spoilt.nd rfl (Or.inl rfl) (pe_ix ix_list (pv 12) (pe_cal (c_draw T) (r13.mono (by omega)) rfl pass0 (pa_cons (pv 0) (pa_cons (pe_callB call_len rfl T.z_len (by decide +kernel) (pa_cons (pv 12) pa_nil)) pa_nil))) (fun _ _ => rfl)))
          (pss_one (ps_set (i := 4) sc_L_spoilt.nd rfl (Or.inl rfl) (pe_cal (c_lrepl T 13) r13 rfl pass0 (pa_cons (pv 4) (pa_cons (pv 10) (pa_cons (pe_cal (c_leaf T) (r13.mono (by omega)) rfl pass0 (pa_cons (pv 0) (pa_cons (pv 1) (pa_cons pe_int pa_nil)))) pa_nil))))))))))))) hB)), ?_⟩
  obtain ⟨sg, v, hlast, hvl, hsg⟩ := hss.getLast hne
  obtain ⟨gsg, dl, dr⟩ := hgd _ (List.mem_of_getLast? hlast)
  obtain ⟨p, x1, x2, q, us, rfl, hp, h1, h2, h3, h4⟩ := hsg
  have hqN : q ∉ N := (no_some h3).1
  have hqa : q ≠ a := fun e => hqN (e ▸ haN)
  have nsm : Same (no N H) H := no_same
  have hp := nsm _ _ hp
  have h1 := h1.mono (Tups.same nsm)
  have h2 := h2.mono (Tups.same nsm)
  have h3 := nsm _ _ h3
  have h4 := h4.stps nsm
  have freshN : ∀ {x : Addr}, H x = none → x ∉ N := fun hx z => hN _ z hx
  have hul := h4.len
  have hun := gsg.n
  refine rd_seq (rd_asg (rd_ixL (rd_var rfl (rd_op (rd_B1 (rd_var rfl ⟨_, _, rfl, .inl ⟨_, sql hsl, rfl⟩, _, _, rfl, rfl, sl, ss, _, _, rfl, rfl, sql hsl, at_len hvl, rd_unl3 rfl hp ?_⟩))))))
  refine rd_nx (rd_let (rd_call2 (rd_var rfl (rd_c (spDraw.i (by decide) (by decide) hst fun kd H1 hkd f1 s1 => ?_)))))
  have n1 := NL.st hst f1
  have t1 := n1.tups
  have ho1 := ho.fr hgo hst f1
  have q1 : H1 q = some (.lst us) := f1.keep (fun z => hqa (List.mem_singleton.mp z)) h3
  have h1' := h1.mono t1
  have h2' := h2.mono t1
  have h4' := h4.stpsN n1
  have drawnLim : ∀ {t : Tm}, Drawn ops 3 t → t.depth ≤ 12 → t.size ≤ 2500 → Lim t := fun d a b => lim_of hgo a b d.in4 d.fs
  refine rd_when (rd_test (rd_op (rd_var rfl ⟨rfl, _, rfl, ?_⟩)))
  split
  · refine rd_set (rd_call4 (rd_var rfl (rd_var rfl (rd_c (rd_c (spTerm.i (c := 3) (h := 2) (by decide) (by decide) s1 hgo ho1 fun v t H2 tv td tz tD f2 s2 => rd_nx ?_))))))
    have n2 := NL.st s1 f2
    have tz' : t.size ≤ 13 := tz
    exact qB x1 v q _ _ _ _ _ _ _ ⟨sg.l, t, sg.steps⟩ us H2 (f1.trans f2) s2 (h1'.mono n2.tups) tv (f2.keep (fun z => hqa (List.mem_singleton.mp z)) q1) (h4'.stpsN n2) hqN ⟨⟨gsg.l, drawnLim (t := t) tD (by omega) (by omega), gsg.n, gsg.st⟩, dl, tD⟩
  · refine rd_if (rd_test (rd_op (rd_var rfl ⟨rfl, _, rfl, ?_⟩)))
    split
    · refine rd_set (rd_call4 (rd_var rfl (rd_var rfl (rd_c (rd_c (spTerm.i (c := 3) (h := 2) (by decide) (by decide) s1 hgo ho1 fun v t H2 tv td tz tD f2 s2 => rd_nx ?_))))))
      have n2 := NL.st s1 f2
      have tz' : t.size ≤ 13 := tz
      exact qB v x2 q _ _ _ _ _ _ _ ⟨t, sg.r, sg.steps⟩ us H2 (f1.trans f2) s2 tv (h2'.mono n2.tups) (f2.keep (fun z => hqa (List.mem_singleton.mp z)) q1) (h4'.stpsN n2) hqN ⟨⟨drawnLim (t := t) tD (by omega) (by omega), gsg.r, gsg.n, gsg.st⟩, tD, dr⟩
    · refine rd_if (rd_and (rd_test (rd_op (rd_var rfl ⟨rfl, _, rfl, ?_⟩))))
      have hneg : us.length = 0 → ¬ (0 : Int) < ((us.length : Nat) : Int) := fun z => by omega
      have hposi : ¬ us.length = 0 → (0 : Int) < ((us.length : Nat) : Int) := fun z => by omega
      apply cut_imp
      · intro hE
        split
        · refine rd_test (rd_op (rd_B1 (rd_var rfl ⟨_, _, rfl, .inl ⟨_, sql q1, rfl⟩, _, _, rfl, rfl, _, rfl, ?_⟩)))
          by_cases hu0 : us.length = 0
          · rw [decide_eq_false (hneg hu0)]
            exact iteF hE
          · clear hE
            rw [decide_eq_true (hposi hu0)]
            refine iteT (rd_let (rd_call2 (rd_var rfl (rd_B1 (rd_var rfl ⟨_, _, rfl, .inl ⟨_, sql q1, rfl⟩, spDraw.i (by omega) (by omega) s1 fun j H2 hj f2 s2 => ?_⟩)))))
            have n2 := NL.st s1 f2
            have q2 : H2 q = some (.lst us) := f2.keep (fun z => hqa (List.mem_singleton.mp z)) q1
            have h4'' := h4'.stpsN n2
            have hj' : j < sg.steps.length := by omega
            obtain ⟨sv, hsv, hstp⟩ := h4''.nth (List.getElem?_eq_getElem hj')
            have gst := gsg.st _ (List.getElem_mem hj')
            have hju : j < us.length := by omega
            generalize sg.steps[j] = st at hstp gst
            obtain ⟨ps, qs, rs, dd, kvs, rfl, g1, g2, g3, g4, g5⟩ := hstp
            refine rd_seq (rd_asg (rd_ixLv rfl rfl q2 (atI_nat hsv) (rd_unl4 rfl g1 ?_)))
            refine rd_nx (rd_set (rd_op (rd_op (rd_headL rfl rfl q2 (Nat.le_of_lt hju) fun p1 m1 => ?_))))
            have w1 : Same H2 (upd H2 p1 (.lst (us.take j))) := Same.new m1 _
            refine rd_lst (rd_cons1 (rd_tup (rd_cons4 (rd_var rfl (rd_notV rfl (rd_var rfl (rd_var rfl ⟨ln_ok, fun tp mt => ⟨ln_ok, fun p2 m2 => ?_⟩⟩)))))))
            have w2 : Same (upd H2 p1 (.lst (us.take j))) (upd (upd H2 p1 (.lst (us.take j))) tp (.tup [.ref qs, .bl !st.fwd, .ref rs, .ref dd])) := Same.new mt _
            have w3 : Same (upd (upd H2 p1 (.lst (us.take j))) tp (.tup [.ref qs, .bl !st.fwd, .ref rs, .ref dd])) (upd (upd (upd H2 p1 (.lst (us.take j))) tp (.tup [.ref qs, .bl !st.fwd, .ref rs, .ref dd])) p2 (.lst [.ref tp])) := Same.new m2 _
            refine ⟨p1, p2, us.take j, [.ref tp], rfl, rfl, w3 _ _ (w2 _ _ upd_same), upd_same, by rw [List.length_take, sizeLine_eq]; simp; omega, fun p3 m3 => ?_⟩
            have htp : (upd (upd (upd H2 p1 (.lst (us.take j))) tp (.tup [.ref qs, .bl !st.fwd, .ref rs, .ref dd])) p2 (.lst [.ref tp])) tp = some (.tup [.ref qs, .bl !st.fwd, .ref rs, .ref dd]) := w3 _ _ upd_same
            have w4 := ((w1.trans w2).trans w3).trans (Same.new m3 (.lst (us.take j ++ [.ref tp])))
            refine rd_restL rfl rfl (w4 _ _ q2) hju fun p4 m4 => ?_
            have w45 : Same (upd (upd (upd (upd H2 p1 (.lst (us.take j))) tp (.tup [.ref qs, .bl !st.fwd, .ref rs, .ref dd])) p2 (.lst [.ref tp])) p3 (.lst (us.take j ++ [.ref tp]))) (upd (upd (upd (upd (upd H2 p1 (.lst (us.take j))) tp (.tup [.ref qs, .bl !st.fwd, .ref rs, .ref dd])) p2 (.lst [.ref tp])) p3 (.lst (us.take j ++ [.ref tp]))) p4 (.lst (us.drop (j + 1)))) := Same.new m4 _
            have htp3 := (Same.new m3 (.lst (us.take j ++ [.ref tp]))) _ _ htp
            refine ⟨p3, p4, _, _, rfl, rfl, w45 _ _ upd_same, upd_same, by rw [List.length_append, List.length_take, List.length_drop, sizeLine_eq]; simp; omega, fun p5 m5 => rd_nx ?_⟩
            have w56 : Same _ (upd (upd (upd (upd (upd (upd H2 p1 (.lst (us.take j))) tp (.tup [.ref qs, .bl !st.fwd, .ref rs, .ref dd])) p2 (.lst [.ref tp])) p3 (.lst (us.take j ++ [.ref tp]))) p4 (.lst (us.drop (j + 1)))) p5 (.lst (us.take j ++ [.ref tp] ++ us.drop (j + 1)))) := Same.new m5 _
            have w26 := (w4.trans w45).trans w56
            have hp5 : H p5 = none := by
              have z := (w4.trans w45).free m5
              exact hst.fresh (f1.trans f2) s2 z
            have stn : IsStp (upd (upd (upd (upd (upd (upd H2 p1 (.lst (us.take j))) tp (.tup [.ref qs, .bl !st.fwd, .ref rs, .ref dd])) p2 (.lst [.ref tp])) p3 (.lst (us.take j ++ [.ref tp]))) p4 (.lst (us.drop (j + 1)))) p5 (.lst (us.take j ++ [.ref tp] ++ us.drop (j + 1)))) ⟨st.giv, st.idx, !st.fwd, st.pos, st.sub⟩ (.ref tp) :=
              ⟨tp, qs, rs, dd, kvs, rfl, w56 _ _ (w45 _ _ htp3), w26 _ _ g2, w26 _ _ g3, w26 _ _ g4, g5.mono (Tups.same w26)⟩
            have all := h4''.stps w26
            refine qB x1 x2 p5 _ _ _ _ _ _ _ ⟨sg.l, sg.r, sg.steps.take j ++ [⟨st.giv, st.idx, !st.fwd, st.pos, st.sub⟩] ++ sg.steps.drop (j + 1)⟩ _ _ ((f1.trans f2).trans (Fr.of w26)) (s2.mono w26) ((h1'.mono n2.tups).mono (Tups.same w26)) ((h2'.mono n2.tups).mono (Tups.same w26)) upd_same (((all.take j).app (A2.one stn)).app (A2.drop (j + 1) all)) (freshN hp5) ⟨⟨gsg.l, gsg.r, ?_, fun s' hs' => ?_⟩, dl, dr⟩
            · show (sg.steps.take j ++ [_] ++ sg.steps.drop (j + 1)).length ≤ 1000
              rw [List.length_append, List.length_append, List.length_take, List.length_drop]
              simp
              omega
            · rcases List.mem_append.mp hs' with z | z
              · rcases List.mem_append.mp z with z | z
                · exact gsg.st s' (List.mem_of_mem_take z)
                · rw [List.mem_singleton.mp z]; exact gst
              · exact gsg.st s' (List.mem_of_mem_drop z)
        · exact iteF hE
      · refine rd_let (rd_call1 (rd_var rfl (spPos.i h2' gsg.r.d (Nat.le_trans gsg.r.z (by decide)) fun pl ps ws H2 npl s2 hpl hps hne2 hpl2 hpv => ?_)))
        have st2 := s1.mono s2
        have hpla : pl ≠ a := (s1.ne npl).1
        have hwl := hps.len
        have hz := gsg.r.z
        have hpos : 0 < ps.length := List.length_pos_iff.mpr hne2
        refine rd_let (rd_ixL (rd_var rfl (rd_call2 (rd_var rfl (rd_B1 (rd_var rfl ⟨_, _, rfl, .inl ⟨_, sql hpl, rfl⟩, spDraw.i (by omega) (by omega) st2 fun n H3 hn f3 s3 => ?_⟩))))))
        have n3 := NL.st st2 f3
        have n13 := (NL.same s2).trans n3
        have hpl3 : H3 pl = some (.lst ws) := f3.keep (fun z => hpla (List.mem_singleton.mp z)) hpl
        have hn' : n < ps.length := by omega
        obtain ⟨v, hv, ⟨r, rfl, hr'⟩⟩ := (hps.poss n3.tups).nth (List.getElem?_eq_getElem hn')
        have hsub := hpv _ (List.getElem_mem hn')
        generalize ps[n] = pos at hr' hsub
        obtain ⟨u, hu⟩ := Option.ne_none_iff_exists'.mp hsub
        have hdu := sub_depth hu
        have upos := u.depth_pos
        have hrd := gsg.r.d
        have f13 : Fr [a] H1 H3 := (Fr.of s2).trans f3
        refine ⟨pl, ws, _, _, rfl, rfl, sql hpl3, atI_nat hv, rd_set (rd_call3 (rd_var rfl (rd_var rfl (rd_call3 (rd_var rfl (rd_var rfl (rd_c (spLeaf.i (c := 3) (by decide) s3 hgo (ho1.fr hgo s1 f13) fun v t H4 tv td tz tD f4 s4 => ?_)))))))) ⟩
        have n4 := NL.st s3 f4
        have n14 := n13.trans n4
        refine spRepl.i (by omega) (by omega) (h2'.mono n14.tups) (n4.tups _ _ hr') tv hsub fun zr H5 s5 hzr => rd_nx ?_
        have n15 := n14.trans (NL.same s5)
        have dp := depth_repl_at (u := t) hu
        have sz := size_repl_at (u := t) hu
        have uz := tm_pos u
        have dd : Drawn ops 3 (sg.r.repl pos t) := ⟨fun m hm => (syms_repl hm).elim (dr.vs m) (tD.vs m), fun f hf => (syms_repl hf).elim (dr.fs f) (tD.fs f)⟩
        have f15 := (f13.trans f4).trans (Fr.of s5)
        exact qB x1 zr q _ _ _ _ _ _ _ ⟨sg.l, sg.r.repl pos t, sg.steps⟩ us H5 (f1.trans f15) (s4.mono s5) (h1'.mono n15.tups) hzr (f15.keep (fun z => hqa (List.mem_singleton.mp z)) q1) (h4'.stpsN n15) hqN ⟨⟨gsg.l, drawnLim (t := sg.r.repl pos t) dd (by omega) (by omega), gsg.n, gsg.st⟩, dl, dd⟩
end
end K65
namespace K65
open PySem PySem.Spec PyProof.Rows L2
/-! ### _law_refuses, _law_turned -/
section
variable {P : Program} {w : World} {K : PySem.W.Frag} {mg : Str → Option Value} {base : Heap}
@[irreducible] def spRef : Sp := fun vs H Q _ => ∃ ops M m given stages g sl, vs = [.ref g, m, .ref sl] ∧ M.fs = List.map (·.1) ops ∧ GoodM M ∧ IsMod H M m ∧ Lay H given stages g sl ∧ (∀ e ∈ given, HoldsIn M e.1 e.2) ∧ stages ≠ [] ∧ stages.length ≤ 1000 ∧ (∀ s, stages.getLast? = some s → GoodSt ops s) ∧
  ∀ H', Same H H' → Q (.bl true) H'
theorem spRef.i {H : Hp} {Q : VK} {E : XK} {ops : List Op} {M : Mdl} {m : V} {given : List Eqn} {stages : List Stg} {g sl : Addr} (h1 : M.fs = List.map (·.1) ops) (h2 : GoodM M) (h3 : IsMod H M m) (h4 : Lay H given stages g sl) (h5 : ∀ e ∈ given, HoldsIn M e.1 e.2) (h6 : stages ≠ []) (h7 : stages.length ≤ 1000) (h8 : ∀ s, stages.getLast? = some s → GoodSt ops s)
    (q : ∀ H', Same H H' → Q (.bl true) H') : spRef [.ref g, m, .ref sl] H Q E := by
  unfold spRef
  exact ⟨ops, M, m, given, stages, g, sl, rfl, h1, h2, h3, h4, h5, h6, h7, h8, q⟩
theorem c_refuses (T : TopF K mg) {CB fI CN : Addr} (B : BadTxt P K mg CB fI) (N : NoP K mg CN) (hne : PySem.W.exmOne K (.ref CN) (.ref CN) = some true) : Cal P w K mg base CX0 157 "_law_refuses" ["_law_given", "_law_model_here", "_law_stages"] spRef := by
  refine k_L_refuses T (fun vs H Q E h => by unfold spRef at h; obtain ⟨_, _, _, _, _, _, _, rfl, _⟩ := h; rfl) (fun cdv A outer s H vs Q E hr h => ?_)
  unfold spRef at h
  obtain ⟨ops, M, m, given, stages, g, sl, rfl, hMf, hM, hm, hlay, hh, hne', hlen, hlast, q⟩ := h
  refine ⟨_, pss_cons (ps_asg (pe_ix ix_list (pv 2) (pe_op op_sub (pe_callB call_len rfl T.z_len (by decide +kernel) (pa_cons (pv 2) pa_nil)) pe_int) (fun _ _ => rfl)) (pg_tup rfl (pgs_cons (pg_name (i := 3) sc_L_refuses.nd rfl (Or.inl rfl)) (pgs_cons (pg_name (i := 4) sc_L_refuses.nd rfl (Or.inl rfl)) (pgs_cons (pg_name (i := 5) sc_L_refuses.nd rfl (Or.inl rfl)) pgs_nil)))))
    (pss_cons (ps_if (pt_cmpR op_isN (pe_cal (c_lfd T) (hr.mono (by omega)) rfl pass0 (pa_cons (pv 1) (pa_cons (pv 3) (pa_cons (pv 4) pa_nil)))) pe_non (nomark _)) (pss_one (ps_ret pe_bl)) pss_nil)
    (pss_one (ps_ret (pe_cmpR op_is_bl (pe_cal (c_der T B N hne) hr rfl pass0 (pa_cons (pe_callTy call_list_of rfl T.z_list (by decide +kernel) (pa_cons (pv 0) pa_nil)) (pa_cons (pv 3) (pa_cons (pv 4) (pa_cons (pe_callTy call_list_of rfl T.z_list (by decide +kernel) (pa_cons (pv 2) pa_nil)) pa_nil))))) pe_bl (nomark _))))), ?_⟩
  obtain ⟨⟨gs, ss, g1, g2, g3, g4⟩, g5, g6⟩ := id hlay
  obtain ⟨sg, v, hla, hvl, hsg⟩ := g4.getLast hne'
  obtain ⟨gsg, dl, dr⟩ := hlast _ hla
  obtain ⟨p, x1, x2, qq, us, rfl, hp, h1, h2, h3, h4⟩ := hsg
  refine rd_seq (rd_asg (rd_ixL (rd_var rfl (rd_op (rd_B1 (rd_var rfl ⟨_, _, rfl, .inl ⟨_, sql g3, rfl⟩, _, _, rfl, rfl, sl, ss, _, _, rfl, rfl, sql g3, at_len hvl, rd_unl3 rfl hp ?_⟩))))))
  have hof : ∀ {t : Tm}, Drawn ops 3 t → t.ofs M.fs := fun d => by rw [hMf]; exact d.fs
  refine rd_nx (rd_when1 (rd_test (rd_op (rd_call3 (rd_var rfl (rd_var rfl (rd_var rfl (spLFd.i hm hM.pos hM.le h1 h2 gsg.l.d (Nat.le_trans gsg.l.z (by decide)) gsg.r.d (Nat.le_trans gsg.r.z (by decide)) (hof dl) (hof dr) (lv2_5 dl.in4 dr.in4) fun v H1 s1 hv => ⟨rfl, _, rfl, ?_⟩))))))))
  by_cases e0 : v = .non
  · rw [decide_eq_true e0]
    exact iteT (rd_ret (rd_c (q H1 s1)))
  · rw [decide_eq_false e0]
    refine iteF (rd_ret (rd_op (rd_call4 (rd_B1 (rd_var rfl ⟨g, gs, rfl, .inl (sql (s1 _ _ g1)), fun g' ng => rd_var rfl (rd_var rfl (rd_B1 (rd_var rfl ⟨sl, ss, rfl, .inl (sql ?_), fun sl' nsl => ?_⟩)))⟩)))))
    · exact Same.new ng _ _ _ (s1 _ _ g3)
    · have u1 : Same H1 (upd H1 g' (.lst gs)) := Same.new ng _
      have u2 : Same (upd H1 g' (.lst gs)) (upd (upd H1 g' (.lst gs)) sl' (.lst ss)) := Same.new nsl _
      have w := (s1.trans u1).trans u2
      have lay2 : Lay (upd (upd H1 g' (.lst gs)) sl' (.lst ss)) given stages g' sl' := ⟨⟨gs, ss, u2 _ _ upd_same, g2.eqs (Tups.same w), upd_same, g4.stgs w⟩, g5, g6⟩
      refine spDer.i lay2 hlen (h1.mono (Tups.same w)) (h2.mono (Tups.same w)) gsg.l.tx gsg.r.tx fun H3 s3 => ⟨_, _, rfl, rfl, ?_⟩
      have hf : derivB given sg.l sg.r stages = false := Bool.eq_false_iff.mpr fun z => e0 (hv.mpr (derivB_sound hM hh z))
      rw [hf]
      exact q H3 (w.trans s3)
/-- one step, its list, its stage, laid one after the other -/
theorem one_stage {H : Hp} {p1 e d p2 l r : Addr} {b fw : Bool} {i : Nat} {sub : Sub} {kvs : List (Key × V)} {f g : Tm} {xf xg : V} (h1 : H p1 = some (.tup [.str (kindS b), .int ((i : Nat) : Int)])) (he : H e = some (.tup [])) (hd : H d = some (.dK kvs)) (hs : IsSub H sub kvs) (hf : IsTm H f xf) (hg : IsTm H g xg)
    (n2 : H p2 = none) (nl : (upd H p2 (.tup [.ref p1, .bl fw, .ref e, .ref d])) l = none) (nr : (upd (upd H p2 (.tup [.ref p1, .bl fw, .ref e, .ref d])) l (.lst [.ref p2])) r = none) :
    Same H (upd (upd (upd H p2 (.tup [.ref p1, .bl fw, .ref e, .ref d])) l (.lst [.ref p2])) r (.tup [xf, xg, .ref l])) ∧ IsStg (upd (upd (upd H p2 (.tup [.ref p1, .bl fw, .ref e, .ref d])) l (.lst [.ref p2])) r (.tup [xf, xg, .ref l])) ⟨f, g, [⟨b, i, fw, [], sub⟩]⟩ (.ref r) := by
  have w1 : Same H (upd H p2 (.tup [.ref p1, .bl fw, .ref e, .ref d])) := Same.new n2 _
  have w2 : Same (upd H p2 (.tup [.ref p1, .bl fw, .ref e, .ref d])) (upd (upd H p2 (.tup [.ref p1, .bl fw, .ref e, .ref d])) l (.lst [.ref p2])) := Same.new nl _
  have w3 : Same (upd (upd H p2 (.tup [.ref p1, .bl fw, .ref e, .ref d])) l (.lst [.ref p2])) (upd (upd (upd H p2 (.tup [.ref p1, .bl fw, .ref e, .ref d])) l (.lst [.ref p2])) r (.tup [xf, xg, .ref l])) := Same.new nr _
  have w := (w1.trans w2).trans w3
  exact ⟨w, r, xf, xg, l, [.ref p2], rfl, upd_same, hf.mono (Tups.same w), hg.mono (Tups.same w), w3 _ _ upd_same, A2.one ⟨p2, p1, e, d, kvs, rfl, w3 _ _ (w2 _ _ upd_same), w _ _ h1, w _ _ he, w _ _ hd, hs.mono (Tups.same w)⟩⟩
@[irreducible] def spTurn : Sp := fun vs H Q _ => ∃ a sc o ops sl ss stages N, vs = [.ref a, .ref o, .ref sl] ∧ St a sc H ∧ GoodOps ops ∧ IsOps H ops o ∧ sl ≠ a ∧ H sl = some (.lst ss) ∧ a ∈ N ∧ A2 (IsStg (no N H)) stages ss ∧ stages ≠ [] ∧ stages.length ≤ 100 ∧ (∀ s ∈ stages, GoodSt ops s) ∧
  ∀ l ss' (more : List Stg) H', H' l = some (.lst ss') → A2 (IsStg H') (stages ++ more) ss' → more ≠ [] → more.length ≤ 2 → (∀ s ∈ more, GoodSt ops s) → Fr [a] H H' → St a sc H' → Q (.ref l) H'
theorem spTurn.i {H : Hp} {Q : VK} {E : XK} {a sc o sl : Addr} {ops : List Op} {ss : List V} {stages : List Stg} {N : List Addr} (h1 : St a sc H) (h2 : GoodOps ops) (ho : IsOps H ops o) (h3 : sl ≠ a) (h4 : H sl = some (.lst ss)) (ha : a ∈ N) (h5 : A2 (IsStg (no N H)) stages ss) (h6 : stages ≠ []) (h7 : stages.length ≤ 100) (h8 : ∀ s ∈ stages, GoodSt ops s)
    (k : ∀ l ss' (more : List Stg) H', H' l = some (.lst ss') → A2 (IsStg H') (stages ++ more) ss' → more ≠ [] → more.length ≤ 2 → (∀ s ∈ more, GoodSt ops s) → Fr [a] H H' → St a sc H' → Q (.ref l) H') : spTurn [.ref a, .ref o, .ref sl] H Q E := by
  unfold spTurn
  exact ⟨a, sc, o, ops, sl, ss, stages, N, rfl, h1, h2, ho, h3, h4, ha, h5, h6, h7, h8, k⟩
theorem c_turned (T : TopF K mg) : Cal P w K mg base CX0 14 "_law_turned" ["_law_state_here", "_law_operations_here", "_law_stages"] spTurn := by
  refine k_L_turned T (fun vs H Q E h => by unfold spTurn at h; obtain ⟨_, _, _, _, _, _, _, _, rfl, _⟩ := h; rfl) (fun cdv A outer s H vs Q E hr h => ?_)
  unfold spTurn at h
  obtain ⟨a, sc, o, ops, sl, ss, stages, N, rfl, hst, hgo, ho, hsla, hsl, haN, hss, hne, hsn, hgd, k⟩ := h
  have r13 : Room 13 (A.deeper (envOfC "_law_turned" (defScope s_L_turned) s.heap.objs.size (He.ga K "_law_turned") cdv)) := hr
  refine ⟨_, pss_cons (ps_set (i := 3) sc_L_turned.nd rfl (Or.inl rfl) (pe_cal (c_term T 3) (r13.mono (by omega)) rfl pass0 (pa_cons (pv 0) (pa_cons (pv 1) (pa_cons pe_int (pa_cons pe_int pa_nil))))))
    (pss_cons (ps_set (i := 4) sc_L_turned.nd rfl (Or.inl rfl) (pe_cal (c_term T 3) (r13.mono (by omega)) rfl pass0 (pa_cons (pv 0) (pa_cons (pv 1) (pa_cons pe_int (pa_cons pe_int pa_nil))))))
    (pss_cons (ps_set (i := 5) sc_L_turned.nd rfl (Or.inl rfl) (pe_cal (c_draw T) (r13.mono (by omega)) rfl pass0 (pa_cons (pv 0) (pa_cons pe_int pa_nil))))
    (pss_cons (ps_set (i := 6) sc_L_turned.nd rfl (Or.inl rfl) pe_dnewK)
    (pss_cons (ps_for PassesOwn.never rfl (pi_list (pe_cal (c_eqN T 12) r13 rfl pass0 (pa_cons (pv 3) (pa_cons (pv 4) pa_nil)))) (pg_name (i := 7) sc_L_turned.nd rfl (Or.inl rfl)) (pss_one (ps_dput (hu_of hr) (pv 6) (pv 7) (pv 7) rfl)))
    (pss_cons (ps_if (pt_cmpR op_eq (pv 5) pe_int (nomark _))
      (pss_cons (ps_set (i := 8) sc_L_turned.nd rfl (Or.inl rfl) (pe_op op_add (pe_callB call_len rfl T.z_len (by decide +kernel) (pa_cons (pv 2) pa_nil)) (pe_cal (c_draw T) (r13.mono (by omega)) rfl pass0 (pa_cons (pv 0) (pa_cons pe_int pa_nil)))))
      (pss_one (ps_ret (pe_op op_cat (pv 2) (pe_lst (pa_cons (pe_tup (pa_cons (pv 3) (pa_cons (pv 4) (pa_cons (pe_lst (pa_cons (pe_tup (pa_cons (pe_tup (pa_cons pe_str (pa_cons (pv 8) pa_nil))) (pa_cons pe_bl (pa_cons (pe_tup pa_nil) (pa_cons (pv 6) pa_nil))))) pa_nil)) pa_nil)))) pa_nil)))))) pss_nil)
    (pss_cons (ps_if (pt_cmpR op_eq (pv 5) pe_int (nomark _))
      (pss_cons (ps_set (i := 9) sc_L_turned.nd rfl (Or.inl rfl) (pe_tup (pa_cons (pv 3) (pa_cons (pv 4) (pa_cons (pe_lst (pa_cons (pe_tup (pa_cons (pe_tup (pa_cons pe_str (pa_cons (pe_callB call_len rfl T.z_len (by decide +kernel) (pa_cons (pv 2) pa_nil)) pa_nil))) (pa_cons pe_bl (pa_cons (pe_tup pa_nil) (pa_cons (pv 6) pa_nil))))) pa_nil)) pa_nil)))))
      (pss_one (ps_ret (pe_op op_cat (pv 2) (pe_lst (pa_cons (pe_tup (pa_cons (pv 3) (pa_cons (pv 4) (pa_cons (pe_lst pa_nil) pa_nil)))) (pa_cons (pv 9) pa_nil))))))) pss_nil)
    (pss_cons (ps_asg (pe_ix ix_list (pv 2) (pe_cal (c_draw T) (r13.mono (by omega)) rfl pass0 (pa_cons (pv 0) (pa_cons (pe_callB call_len rfl T.z_len (by decide +kernel) (pa_cons (pv 2) pa_nil)) pa_nil))) (fun _ _ => rfl)) (pg_tup rfl (pgs_cons (pg_name (i := 10) sc_L_turned.nd rfl (Or.inl rfl)) (pgs_cons (pg_name (i := 11) sc_L_turned.nd rfl (Or.inl rfl)) (pgs_cons (pg_name (i := 12) sc_L_turned.nd rfl (Or.inl rfl)) pgs_nil)))))
    (pss_cons (ps_set (i := 13) sc_L_turned.nd rfl (Or.inl rfl) pe_dnewK)
    (pss_cons (ps_for PassesOwn.never rfl (pi_list (pe_cal (c_eqN T 12) r13 rfl pass0 (pa_cons (pv 10) (pa_cons (pv 11) pa_nil)))) (pg_name (i := 7) sc_L_turned.nd rfl (Or.inl rfl)) (pss_one (ps_dput (hu_of hr) (pv 13) (pv 7) (pe_cal (c_leaf T) (r13.mono (by omega)) rfl pass0 (pa_cons (pv 0) (pa_cons (pv 1) (pa_cons pe_int pa_nil)))) rfl)))
    (pss_cons (ps_set (i := 14) sc_L_turned.nd rfl (Or.inl rfl) (pe_cal (c_draw T) (r13.mono (by omega)) rfl pass0 (pa_cons (pv 0) (pa_cons (pe_callB call_len rfl T.z_len (by decide +kernel) (pa_cons (pv 2) pa_nil)) pa_nil))))
    (pss_one (ps_ret (pe_op op_cat (pv 2) (pe_lst (pa_cons (pe_tup (pa_cons (pv 3) (pa_cons (pv 4) (pa_cons (pe_lst (pa_cons (pe_tup (pa_cons (pe_tup (pa_cons pe_str (pa_cons (pv 14) pa_nil))) (pa_cons (pe_cmpR op_eq (pe_cal (c_draw T) (r13.mono (by omega)) rfl pass0 (pa_cons (pv 0) (pa_cons pe_int pa_nil))) pe_int (nomark _)) (pa_cons (pe_tup pa_nil) (pa_cons (pv 13) pa_nil))))) pa_nil)) pa_nil)))) pa_nil))))))))))))))), ?_⟩
  have frN : ∀ {H' : Hp}, Fr [a] H H' → A2 (IsStg H') stages ss := fun f => (hss.stgs (f.more fun b hb => by rw [List.mem_singleton.mp hb]; exact haN)).stgs no_same
  have slk : ∀ {H' : Hp}, Fr [a] H H' → H' sl = some (.lst ss) := fun f => f.keep (fun z => hsla (List.mem_singleton.mp z)) hsl
  have hwl := hss.len
  have hpos : 0 < stages.length := List.length_pos_iff.mpr hne
  have drawnLim : ∀ {t : Tm}, Drawn ops 3 t → t.depth ≤ 12 → t.size ≤ 2500 → Lim t := fun d a b => lim_of hgo a b d.in4 d.fs
  refine rd_let (rd_call4 (rd_var rfl (rd_var rfl (rd_c (rd_c (spTerm.i (c := 3) (h := 2) (by decide) (by decide) hst hgo ho fun xf f H1 xfv fd fz fD f1 s1 => ?_))))))
  refine rd_let (rd_call4 (rd_var rfl (rd_var rfl (rd_c (rd_c (spTerm.i (c := 3) (h := 2) (by decide) (by decide) s1 hgo (ho.fr hgo hst f1) fun xg g H2 xgv gd gz gD f2 s2 => ?_))))))
  refine rd_let (rd_call2 (rd_var rfl (rd_c (spDraw.i (by decide) (by decide) s2 fun kd H3 hkd f3 s3 => ?_))))
  have f03 := (f1.trans f2).trans f3
  have t23 := tups_st s2 f3
  have t13 := (tups_st s1 f2).trans t23
  have xf3 := xfv.mono t13
  have xg3 := xgv.mono t23
  have fz' : f.size ≤ 13 := fz
  have gz' : g.size ≤ 13 := gz
  have lf := drawnLim fD (by omega) (by omega)
  have lg := drawnLim gD (by omega) (by omega)
  refine rd_let (rd_dnewK fun d nd => ?_)
  obtain ⟨da, dsc⟩ := s3.ne nd
  have u1 : Same H3 (upd H3 d (.dK [])) := Same.new nd _
  refine rd_seq (rd_for (rd_iList (rd_call2 (rd_var rfl (rd_var rfl (spEqN.i (xf3.mono (Tups.same u1)) (xg3.mono (Tups.same u1)) (by omega) (by omega) (by omega) (by omega) fun b ns H4 nb s4 hb lv => ⟨b, rfl, ⟨_, sql hb⟩, ?_⟩))))))
  have hbd : b ≠ d := fun z => by rw [z, upd_same] at nb; cases nb
  refine for_ident (i := 6) (j := 7) (by decide) rfl ⟨_, rfl⟩ hbd hb (s4 _ _ upd_same) lv.nd (Nat.le_trans lv.len (by omega)) fun z7 kvs H5 k5 hd5 hs5 => ?_
  have u35 : Same H3 H5 := fun b' o ho => k5 b' o (ne_of_none ho nd) (s4 _ _ (u1 _ _ ho))
  have f05 : Fr [a] H H5 := f03.trans (Fr.of u35)
  have s5 : St a sc H5 := s3.mono u35
  have xf5 := xf3.mono (Tups.same u35)
  have xg5 := xg3.mono (Tups.same u35)
  have hgood := idSub_good hgo lv fD.in4 gD.in4
  have gst1 : ∀ (b : Bool) (i : Nat) (fw : Bool) (sub : Sub), GoodStp ⟨b, i, fw, [], sub⟩ → GoodSt ops ⟨f, g, [⟨b, i, fw, [], sub⟩]⟩ := fun b i fw sub hs => ⟨⟨lf, lg, by show 1 ≤ 1000; decide, fun t ht => by rw [List.mem_singleton.mp ht]; exact hs⟩, fD, gD⟩
  -- the end, when the new stage lies
  have fin : ∀ (b fw : Bool) (i : Nat) (sub : Sub) (kvs : List (Key × V)) (dd p1 e : Addr) (H6 : Hp), Fr [a] H H6 → St a sc H6 → IsTm H6 f xf → IsTm H6 g xg → H6 p1 = some (.tup [.str (kindS b), .int ((i : Nat) : Int)]) → H6 e = some (.tup []) → H6 dd = some (.dK kvs) → IsSub H6 sub kvs → GoodStp ⟨b, i, fw, [], sub⟩ →
      ∀ p2, H6 p2 = none → ∀ l, (upd H6 p2 (.tup [.ref p1, .bl fw, .ref e, .ref dd])) l = none → ∀ r, (upd (upd H6 p2 (.tup [.ref p1, .bl fw, .ref e, .ref dd])) l (.lst [.ref p2])) r = none →
      ∀ L, (upd (upd (upd H6 p2 (.tup [.ref p1, .bl fw, .ref e, .ref dd])) l (.lst [.ref p2])) r (.tup [xf, xg, .ref l])) L = none →
      rCat (.ref sl) (.ref L) (upd (upd (upd (upd H6 p2 (.tup [.ref p1, .bl fw, .ref e, .ref dd])) l (.lst [.ref p2])) r (.tup [xf, xg, .ref l])) L (.lst [.ref r])) Q := fun b fw i sub kvs dd p1 e H6 f6 s6 x6 y6 h1 h2 h3 h4 h5 p2 n2 l n3 r n4 L n5 => by
    obtain ⟨w, hstg⟩ := one_stage (b := b) (fw := fw) (i := i) h1 h2 h3 h4 x6 y6 n2 n3 n4
    generalize upd (upd (upd H6 p2 (.tup [.ref p1, .bl fw, .ref e, .ref dd])) l (.lst [.ref p2])) r (.tup [xf, xg, .ref l]) = H7 at w hstg n5
    have w2 : Same H7 (upd H7 L (.lst [.ref r])) := Same.new n5 _
    have w26 := w.trans w2
    have f7 := f6.trans (Fr.of w26)
    refine ⟨sl, L, ss, [.ref r], rfl, rfl, slk f7, upd_same, by rw [sizeLine_eq]; show ss.length + 1 ≤ _; omega, fun R nR => ?_⟩
    have w3 : Same (upd H7 L (.lst [.ref r])) (upd (upd H7 L (.lst [.ref r])) R (.lst (ss ++ [.ref r]))) := Same.new nR _
    have f8 := f7.trans (Fr.of w3)
    exact k R _ [⟨f, g, [⟨b, i, fw, [], sub⟩]⟩] _ upd_same ((frN f8).app (A2.one (hstg.mono (w2.trans w3)))) (by simp) (by simp) (fun s hs => by rw [List.mem_singleton.mp hs]; exact gst1 b i fw sub h5) f8 ((s6.mono w26).mono w3)
  refine rd_nx (rd_when1 (rd_test (rd_op (rd_var rfl ⟨rfl, _, rfl, ?_⟩))))
  split
  · refine rd_let (rd_op (rd_B1 (rd_var rfl ⟨_, _, rfl, .inl ⟨_, sql (slk f05), rfl⟩, rd_call2 (rd_var rfl (rd_c (spDraw.i (by decide) (by decide) s5 fun n H6 hn f6 s6 => ⟨_, _, rfl, rfl, ?_⟩)))⟩)))
    have t6 := tups_st s5 f6
    refine rd_ret (rd_op (rd_var rfl (rd_lst (rd_cons1 (rd_tup (rd_cons3 (rd_var rfl (rd_var rfl (rd_lst (rd_cons1 (rd_tup (rd_cons4 (rd_tup (rd_cons2 (rd_c (rd_var rfl ⟨ln_ok, fun p1 n1 => rd_c (rd_tup0 fun e ne => rd_var rfl ⟨ln_ok, fun p2 n2 => ⟨ln_ok, fun l n3 => ⟨ln_ok, fun r n4 => ⟨ln_ok, fun L n5 => ?_⟩⟩⟩⟩)⟩))))))))))))))))
    have v1 : Same H6 (upd H6 p1 (.tup [.str "stage", .int ((ss.length : Nat) + (n : Nat) : Int)])) := Same.new n1 _
    have v2 : Same (upd H6 p1 (.tup [.str "stage", .int ((ss.length : Nat) + (n : Nat) : Int)])) (upd (upd H6 p1 (.tup [.str "stage", .int ((ss.length : Nat) + (n : Nat) : Int)])) e (.tup [])) := Same.new ne _
    have v := v1.trans v2
    refine fin false true (ss.length + n) (idSub ns) kvs d p1 e _ ((f05.trans f6).trans (Fr.of v)) (s6.mono v) ((xf5.mono t6).mono (Tups.same v)) ((xg5.mono t6).mono (Tups.same v)) ?_ upd_same (v _ _ (f6.keep (fun z => da (List.mem_singleton.mp z)) hd5)) ((hs5.mono t6).mono (Tups.same v)) hgood p2 n2 l n3 r n4 L n5
    rw [v2 _ _ upd_same, show (((ss.length + n : Nat)) : Int) = (ss.length : Int) + (n : Int) by omega]
    rfl
  · refine rd_when1 (rd_test (rd_op (rd_var rfl ⟨rfl, _, rfl, ?_⟩)))
    split
    · refine rd_let (rd_tup (rd_cons3 (rd_var rfl (rd_var rfl (rd_lst (rd_cons1 (rd_tup (rd_cons4 (rd_tup (rd_cons2 (rd_c (rd_B1 (rd_var rfl ⟨_, _, rfl, .inl ⟨_, sql (slk f05), rfl⟩, ln_ok, fun p1 n1 => rd_c (rd_tup0 fun e ne => rd_var rfl ⟨ln_ok, fun p2 n2 => ⟨ln_ok, fun l n3 => ⟨ln_ok, fun r n4 => ?_⟩⟩⟩)⟩)))))))))))))
      have v1 : Same H5 (upd H5 p1 (.tup [.str "stage", .int ((ss.length : Nat) : Int)])) := Same.new n1 _
      have v2 : Same (upd H5 p1 (.tup [.str "stage", .int ((ss.length : Nat) : Int)])) (upd (upd H5 p1 (.tup [.str "stage", .int ((ss.length : Nat) : Int)])) e (.tup [])) := Same.new ne _
      have v := v1.trans v2
      obtain ⟨w, hstg⟩ := one_stage (b := false) (fw := true) (i := ss.length) (f := f) (g := g) (sub := idSub ns) (v2 _ _ upd_same) upd_same (v _ _ hd5) (hs5.mono (Tups.same v)) (xf5.mono (Tups.same v)) (xg5.mono (Tups.same v)) n2 n3 n4
      have vw := v.trans w
      have f7 : Fr [a] H _ := f05.trans (Fr.of vw)
      have s7 := s5.mono vw
      have x7 := xf5.mono (Tups.same vw)
      have y7 := xg5.mono (Tups.same vw)
      generalize upd (upd (upd (upd (upd H5 p1 (.tup [.str "stage", .int ((ss.length : Nat) : Int)])) e (.tup [])) p2 (.tup [.ref p1, .bl true, .ref e, .ref d])) l (.lst [.ref p2])) r (.tup [xf, xg, .ref l]) = H7 at hstg f7 s7 x7 y7
      refine rd_ret (rd_op (rd_var rfl (rd_lst (rd_cons2 (rd_tup (rd_cons3 (rd_var rfl (rd_var rfl (rd_lst0 fun l2 m1 => ⟨ln_ok, fun r2 m2 => rd_var rfl ⟨ln_ok, fun L m3 => ?_⟩⟩)))))))))
      have y1 : Same H7 (upd H7 l2 (.lst [])) := Same.new m1 _
      have y2 : Same (upd H7 l2 (.lst [])) (upd (upd H7 l2 (.lst [])) r2 (.tup [xf, xg, .ref l2])) := Same.new m2 _
      have y3 : Same (upd (upd H7 l2 (.lst [])) r2 (.tup [xf, xg, .ref l2])) (upd (upd (upd H7 l2 (.lst [])) r2 (.tup [xf, xg, .ref l2])) L (.lst [.ref r2, .ref r])) := Same.new m3 _
      have y := (y1.trans y2).trans y3
      have f8 := f7.trans (Fr.of y)
      refine ⟨sl, L, ss, [.ref r2, .ref r], rfl, rfl, slk f8, upd_same, by rw [sizeLine_eq]; show ss.length + 2 ≤ _; omega, fun R nR => ?_⟩
      have y4 : Same (upd (upd (upd H7 l2 (.lst [])) r2 (.tup [xf, xg, .ref l2])) L (.lst [.ref r2, .ref r])) (upd (upd (upd (upd H7 l2 (.lst [])) r2 (.tup [xf, xg, .ref l2])) L (.lst [.ref r2, .ref r])) R (.lst (ss ++ [.ref r2, .ref r]))) := Same.new nR _
      have f9 := f8.trans (Fr.of y4)
      have yy := y.trans y4
      refine k R _ [⟨f, g, []⟩, ⟨f, g, [⟨false, ss.length, true, [], idSub ns⟩]⟩] _ upd_same ((frN f9).app ⟨.ref r2, [.ref r], rfl, ⟨r2, xf, xg, l2, [], rfl, y4 _ _ (y3 _ _ upd_same), x7.mono (Tups.same yy), y7.mono (Tups.same yy), y4 _ _ (y3 _ _ (y2 _ _ upd_same)), rfl⟩, A2.one (hstg.mono yy)⟩) (by simp) (by simp) (fun s hs => ?_) f9 ((s7.mono y).mono y4)
      rcases List.mem_cons.mp hs with z | z
      · rw [z]; exact ⟨⟨lf, lg, by show 0 ≤ 1000; decide, fun t ht => by cases ht⟩, fD, gD⟩
      · rw [List.mem_singleton.mp z]; exact gst1 _ _ _ _ hgood
    · refine rd_seq (rd_asg (rd_ixL (rd_var rfl (rd_call2 (rd_var rfl (rd_B1 (rd_var rfl ⟨_, _, rfl, .inl ⟨_, sql (slk f05), rfl⟩, spDraw.i (by omega) (by omega) s5 fun j H6 hj f6 s6 => ?_⟩)))))))
      have f06 := f05.trans f6
      have hj' : j < stages.length := by omega
      obtain ⟨v, hv, hstg⟩ := (frN f06).nth (List.getElem?_eq_getElem hj')
      obtain ⟨gsj, dlj, drj⟩ := hgd _ (List.getElem_mem hj')
      generalize stages[j] = sj at hstg gsj dlj drj
      obtain ⟨p, y1, y2, qj, us, rfl, hp, h1, h2, _⟩ := hstg
      refine ⟨sl, ss, _, _, rfl, rfl, sql (slk f06), atI_nat hv, rd_unl3 rfl hp ?_⟩
      refine rd_nx (rd_let (rd_dnewK fun d2 nd2 => ?_))
      obtain ⟨da2, dsc2⟩ := s6.ne nd2
      have d2H : H d2 = none := hst.fresh f06 s6 nd2
      have v1 : Same H6 (upd H6 d2 (.dK [])) := Same.new nd2 _
      refine rd_seq (rd_for (rd_iList (rd_call2 (rd_var rfl (rd_var rfl (spEqN.i (h1.mono (Tups.same v1)) (h2.mono (Tups.same v1)) gsj.l.d (Nat.le_trans gsj.l.z (by decide)) gsj.r.d (Nat.le_trans gsj.r.z (by decide)) fun b2 ms H7 nb2 s7 hb2 lv2 => ⟨b2, rfl, ⟨_, sql hb2⟩, ?_⟩))))))
      have hbd2 : b2 ≠ d2 := fun z => by rw [z, upd_same] at nb2; cases nb2
      have hba2 : b2 ≠ a := ((s6.upd da2 dsc2).ne nb2).1
      have hm4 := four lv2.nd fun n hn => ((lv2.mem n).mp hn).elim (dlj.in4 n) (drj.in4 n)
      have t56 := tups_st s5 f6
      have v17 := v1.trans s7
      refine for_list (K := K) (a := b2) (xs := ms.map V.int) (fun i σ H' => ∃ z7 kvs sub, σ = [some (.ref a), some (.ref o), some (.ref sl), some xf, some xg, some (.int (kd : Int)), some (.ref d), z7, none, none, some y1, some y2, some (.ref qj), some (.ref d2), none] ∧ Fr [a] H H' ∧ St a sc H' ∧ H' b2 = some (.lst (ms.map V.int)) ∧ H' d2 = some (.dK kvs) ∧ IsSub H' sub kvs ∧ IsTm H' f xf ∧ IsTm H' g xg ∧ sub.map (·.1) = ms.take i ∧ ∀ p ∈ sub, Lim p.2)
        ⟨_, [], [], rfl, f06.trans (Fr.of v17), s6.mono v17, hb2, s7 _ _ upd_same, rfl, (xf5.mono t56).mono (Tups.same v17), (xg5.mono t56).mono (Tups.same v17), rfl, fun _ z => by cases z⟩ (fun i σ H' _ hh => ?_) ?_ ?_
      · obtain ⟨z7, kvs, sub, rfl, _, _, c3, _⟩ := hh
        exact sql c3
      · rintro i y σ H8 hi ⟨z7, kvs8, sub, rfl, c1, c2, c3, c4, c5, c6, c7, c8, c9⟩
        obtain ⟨m, hm, rfl⟩ : ∃ m, ms[i]? = some m ∧ y = .int m := by
          rw [List.getElem?_map] at hi
          cases e : ms[i]? with
          | none => rw [e] at hi; cases hi
          | some m => rw [e] at hi; exact ⟨m, rfl, (Option.some.inj hi).symm⟩
        have hil := (List.getElem?_eq_some_iff.mp hm).1
        refine rd_name (rd_dput (rd_call3 (rd_var rfl (rd_var rfl (rd_c (spLeaf.i (c := 3) (by decide) c2 hgo (ho.fr hgo hst c1) fun v t H9 tv td tz tD f9 s9 => ?_))))))
        have t9 := tups_st c2 f9
        have d9 : H9 d2 = some (.dK kvs8) := f9.keep (fun z => da2 (List.mem_singleton.mp z)) c4
        have b9 : H9 b2 = some (.lst (ms.map V.int)) := f9.keep (fun z => hba2 (List.mem_singleton.mp z)) c3
        have hnew : m ∉ sub.map (·.1) := by
          rw [c8]
          intro z
          have h1 := lv2.nd
          rw [← List.take_append_drop i ms] at h1
          refine (List.nodup_append.mp h1).2.2 _ z m ?_ rfl
          rw [List.drop_eq_getElem_cons hil, (List.getElem?_eq_some_iff.mp hm).2]
          exact List.mem_cons_self
        have hkl := (c5.mono t9).len
        have hsl8 : sub.length ≤ 4 := by
          have := congrArg List.length c8
          rw [List.length_map, List.length_take] at this
          omega
        have z := sub_put (n := m) (t := t) (x := v) d9 (c5.mono t9) hnew tv
        refine rd_var rfl (rd_var rfl ⟨d2, _, rfl, DPut.k (k := (.inl m : Key)) d9 (by rw [hkl, sizeLine_eq]; omega), _, _, sub ++ [(m, t)], rfl, (c1.trans f9).mut (no_none d2H), s9.upd da2 dsc2, by rw [upd_ne hbd2]; exact b9, upd_same, z, (c6.mono t9).mono (tups_dk d9), (c7.mono t9).mono (tups_dk d9), ?_, fun p hp => ?_⟩)
        · rw [List.map_append, c8, take_succ' hm]; rfl
        · rcases List.mem_append.mp hp with z | z
          · exact c9 p z
          · rw [List.mem_singleton.mp z]
            exact drawnLim (t := t) tD (by omega) (by omega)
      · rintro σ H8 ⟨z7, kvs8, sub, rfl, c1, c2, c3, c4, c5, c6, c7, c8, c9⟩
        rw [List.length_map, List.take_length] at c8
        have hsl8 : sub.length ≤ 4 := by
          have := congrArg List.length c8
          rw [List.length_map] at this
          omega
        refine rd_nx (rd_let (rd_call2 (rd_var rfl (rd_B1 (rd_var rfl ⟨_, _, rfl, .inl ⟨_, sql (slk c1), rfl⟩, spDraw.i (by omega) (by omega) c2 fun i2 H9 hi2 f9 s9 => ?_⟩)))))
        have t9 := tups_st c2 f9
        refine rd_ret (rd_op (rd_var rfl (rd_lst (rd_cons1 (rd_tup (rd_cons3 (rd_var rfl (rd_var rfl (rd_lst (rd_cons1 (rd_tup (rd_cons4 (rd_tup (rd_cons2 (rd_c (rd_var rfl ⟨ln_ok, fun p1 n1 => ?_⟩))))))))))))))))
        have w1 : Same H9 (upd H9 p1 (.tup [.str "stage", .int (i2 : Int)])) := Same.new n1 _
        refine rd_op (rd_call2 (rd_var rfl (rd_c (spDraw.i (by decide) (by decide) (s9.mono w1) fun n3' H10 hn3 f10 s10 => ⟨rfl, (rd_tup0 fun e ne => rd_var rfl ⟨ln_ok, fun p2 n2 => ⟨ln_ok, fun l n3 => ⟨ln_ok, fun r n4 => ⟨ln_ok, fun L n5 => ?_⟩⟩⟩⟩)⟩))))
        have t10 := tups_st (s9.mono w1) f10
        have w2 : Same H10 (upd H10 e (.tup [])) := Same.new ne _
        have d9 : H9 d2 = some (.dK kvs8) := f9.keep (fun z => da2 (List.mem_singleton.mp z)) c4
        have d10 : H10 d2 = some (.dK kvs8) := f10.keep (fun z => da2 (List.mem_singleton.mp z)) (w1 _ _ d9)
        have tt : Tups H8 (upd H10 e (.tup [])) := ((t9.trans (Tups.same w1)).trans t10).trans (Tups.same w2)
        exact fin false (decide (V.int (n3' : Int) = .int 0)) i2 sub kvs8 d2 p1 e _ ((((c1.trans f9).trans (Fr.of w1)).trans f10).trans (Fr.of w2)) (s10.mono w2) (c6.mono tt) (c7.mono tt) (w2 _ _ (t10 _ _ upd_same)) upd_same (w2 _ _ d10) (c5.mono tt) ⟨by show sub.length ≤ 60; omega, c9⟩ p2 n2 l n3 r n4 L n5
end
end K65
namespace K65
open PySem PySem.Spec PyProof.Rows L2
/-! ### the law -/
theorem IsStgAt.no {N : List Addr} {H : Hp} {s : Stg} {v : V} {q : Addr} (h : IsStgAt H s v q) (hq : q ∉ N) (hN : ∀ b ∈ N, ∃ xs, H b = some (.lst xs)) : IsStg (no N H) s v := by
  obtain ⟨p, x, y, ss, rfl, h1, h2, h3, h4, h5⟩ := h
  have nl : NL H (K65.no N H) := fun b o ho hb => by
    rw [no_out (fun z => ?_)]
    · exact hb
    · obtain ⟨xs, e⟩ := hN b z
      rw [hb] at e
      exact ho xs (Option.some.inj e)
  exact ⟨p, x, y, q, ss, rfl, nl.tups _ _ h1, h2.mono nl.tups, h3.mono nl.tups, by rw [no_out hq]; exact h4, h5.stpsN nl⟩
theorem IsStg.nl {H H' : Hp} {s : Stg} {v : V} (h : IsStg H s v) (k : Same H H') : IsStg H' s v := h.mono k
theorem cut_all {A F : Hp → Prop} {B : Prop} (h : (∀ H, F H → A H) → B) (k : ∀ H, F H → A H) : B := h k
structure LI (a sc o g sl : Addr) (ops : List Op) (M : Mdl) (m : V) (given : List Eqn) (stages : List Stg) (H : Hp) : Prop where
  st : St a sc H
  op : IsOps H ops o
  md : IsMod H M m
  ga : g ≠ a
  gc : g ≠ sc
  go : g ≠ o
  sa : sl ≠ a
  sk : sl ≠ sc
  so : sl ≠ o
  sg : sl ≠ g
  gv : ∃ gs, H g = some (.lst gs) ∧ A2 (IsEq H) given gs
  ss : ∃ ss, H sl = some (.lst ss) ∧ A2 (IsStg (K65.no [a, g, sl] H)) stages ss
  gg : ∀ e ∈ given, GoodEq e ∧ HoldsIn M e.1 e.2
  sgd : ∀ s ∈ stages, GoodSt ops s
  der : ∀ more, derB (given ++ more) [] stages = true
section
variable {a sc o g sl : Addr} {ops : List Op} {M : Mdl} {m : V} {given : List Eqn} {stages : List Stg} {H H' : Hp}
theorem LI.lists (L : LI a sc o g sl ops M m given stages H) : ∀ b ∈ [a, g, sl], ∃ xs, H b = some (.lst xs) := fun b hb => by
  rcases List.mem_cons.mp hb with e | hb
  · rw [e]
    obtain ⟨n, i, sd, scr, e1, _⟩ := L.st
    exact ⟨_, e1⟩
  · rcases List.mem_cons.mp hb with e | hb
    · rw [e]
      obtain ⟨gs, h, _⟩ := L.gv
      exact ⟨_, h⟩
    · rw [List.mem_singleton.mp hb]
      obtain ⟨ss, h, _⟩ := L.ss
      exact ⟨_, h⟩
theorem LI.line (hgo : GoodOps ops) (L : LI a sc o g sl ops M m given stages H) {more : List Eqn} {gs' : List V} (f : Fr [a, g] H H') (n : NL H H') (st : St a sc H') (hg : H' g = some (.lst gs')) (hgs : A2 (IsEq H') (given ++ more) gs') (ge : ∀ e ∈ more, GoodEq e ∧ HoldsIn M e.1 e.2) :
    LI a sc o g sl ops M m (given ++ more) stages H' := by
  have oa := L.op.ne hgo L.st
  have on : o ∉ [a, g] := fun z => (List.mem_cons.mp z).elim oa fun z => L.go (List.mem_singleton.mp z).symm
  have sn : sl ∉ [a, g] := fun z => (List.mem_cons.mp z).elim L.sa fun z => L.sg (List.mem_singleton.mp z)
  refine ⟨st, L.op.keep n fun xs hx => f.keep on hx, L.md.nl n, L.ga, L.gc, L.go, L.sa, L.sk, L.so, L.sg, ⟨gs', hg, hgs⟩, ?_, fun e he => (List.mem_append.mp he).elim (L.gg e) (ge e), L.sgd, fun mo => by rw [List.append_assoc]; exact L.der _⟩
  obtain ⟨ss, h1, h2⟩ := L.ss
  refine ⟨ss, f.keep sn h1, h2.stgs (f.more fun b hb => ?_)⟩
  rcases List.mem_cons.mp hb with e | hb
  · rw [e]; exact List.mem_cons_self
  · rw [List.mem_singleton.mp hb]; exact List.mem_cons_of_mem _ List.mem_cons_self
theorem LI.fr (hgo : GoodOps ops) (L : LI a sc o g sl ops M m given stages H) (f : Fr [a] H H') (st : St a sc H') : LI a sc o g sl ops M m given stages H' := by
  obtain ⟨gs, h1, h2⟩ := L.gv
  have n := NL.st L.st f
  have z := L.line hgo (more := []) (gs' := gs) (f.more fun b hb => by rw [List.mem_singleton.mp hb]; exact List.mem_cons_self) n st (f.keep (fun z => L.ga (List.mem_singleton.mp z)) h1) (by rw [List.append_nil]; exact h2.eqs n.tups) fun _ z => by cases z
  rwa [List.append_nil] at z
theorem LI.same (hgo : GoodOps ops) (L : LI a sc o g sl ops M m given stages H) (s : Same H H') : LI a sc o g sl ops M m given stages H' := L.fr hgo (Fr.of s) (L.st.mono s)
theorem LI.add (L : LI a sc o g sl ops M m given stages H) {ss : List V} {v : V} {s : Stg} {q : Addr} (hs : H sl = some (.lst ss)) (hv : IsStgAt H s v q) (hq : q ∉ [a, g, sl]) (gs : GoodSt ops s) (ok : ∀ more, leadsB (given ++ more) stages s = true) :
    LI a sc o g sl ops M m given (stages ++ [s]) (upd H sl (.lst (ss ++ [v]))) := by
  have n : NL H (upd H sl (.lst (ss ++ [v]))) := NL.lst hs
  have oa : o ≠ sl := Ne.symm L.so
  have fr : Fr [a, g, sl] H (upd H sl (.lst (ss ++ [v]))) := Fr.mem (List.mem_cons_of_mem _ (List.mem_cons_of_mem _ List.mem_cons_self))
  obtain ⟨gs0, h1, h2⟩ := L.gv
  refine ⟨L.st.upd L.sa L.sk, L.op.keep n fun xs hx => by rw [upd_ne oa]; exact hx, L.md.nl n, L.ga, L.gc, L.go, L.sa, L.sk, L.so, L.sg, ⟨gs0, by rw [upd_ne (Ne.symm L.sg)]; exact h1, h2.eqs n.tups⟩, ⟨_, upd_same, ?_⟩, L.gg, fun t ht => (List.mem_append.mp ht).elim (L.sgd t) fun z => by rw [List.mem_singleton.mp z]; exact gs, fun more => ?_⟩
  · obtain ⟨ss', h3, h4⟩ := L.ss
    rw [hs] at h3
    have e := HO.lst.inj (Option.some.inj h3)
    subst e
    exact (h4.stgs fr).app (A2.one ((hv.no hq L.lists).mono fr))
  · rw [derB_app, L.der, List.nil_append]
    simp [derB, ok more]
end
theorem LineOk.leads {ops : List Op} {M : Mdl} {given more : List Eqn} {s : Stg} (h : LineOk ops M given more s) (G : List Eqn) (E : List Stg) : leadsB (given ++ more ++ G) E s = true := by
  unfold leadsB
  rw [h.ok]
  exact decide_eq_true rfl
section
variable {P : Program} {w : World} {K : PySem.W.Frag} {mg : Str → Option Value} {base : Heap}
theorem spState.i {H : Hp} {p : Addr} {scr : List Int} {Q : VK} {E : XK} (h1 : SqL K H p (scr.map V.int)) (h2 : scr.length ≤ 1000) (q : ∀ a sc H', Same H H' → St a sc H' → H a = none → Q (.ref a) H') : spState K [.ref p] H Q E := by
  unfold spState
  exact ⟨p, scr, rfl, h1, h2, q⟩
theorem spOps.i {H : Hp} {a sc : Addr} {Q : VK} {E : XK} (h1 : St a sc H) (q : ∀ D (ops : List Op) os H', GoodOps ops → H D = none → H' D = some (.lst os) → A2 (IsOp H') ops os → Fr [a] H H' → St a sc H' → Q (.ref D) H') : spOps [.ref a] H Q E := by
  unfold spOps
  exact ⟨a, sc, rfl, h1, q⟩
/-- a name bound in the heap: two things of one heap, one of them new -/
theorem ne_new {H : Hp} {b p : Addr} {o : HO} (h : H b = some o) (n : H p = none) : p ≠ b := fun e => by rw [e, h] at n; cases n
@[irreducible] def spLaw (K : PySem.W.Frag) : Sp := fun vs H Q _ => ∃ (p : Addr) (scr : List Int), vs = [.ref p] ∧ SqL K H p (scr.map V.int) ∧ scr.length ≤ 1000 ∧ ∀ H', Q (.bl true) H'
theorem spLaw.i {H : Hp} {p : Addr} {scr : List Int} {Q : VK} {E : XK} (h1 : SqL K H p (scr.map V.int)) (h2 : scr.length ≤ 1000) (q : ∀ H', Q (.bl true) H') : spLaw K [.ref p] H Q E := by
  unfold spLaw
  exact ⟨p, scr, rfl, h1, h2, q⟩
theorem law_body (T : TopF K mg) {CB fI CN : Addr} (B : BadTxt P K mg CB fI) (N : NoP K mg CN) (hne : PySem.W.exmOne K (.ref CN) (.ref CN) = some true) (cdv : Value) (A : Around) (outer : List Env) (s : Shared) (H : Hp) (vs : List V) (Q : VK) (E : XK)
    (hr : Room 157 (A.deeper (envOfC "law" (defScope s_law) s.heap.objs.size (He.ga K "law") cdv))) (h : spLaw K vs H Q E) :
    ∃ t, PSs (cxOf CX0 P w K mg base ["_law_script", "_law_state_here", "_law_operations_here", "_law_model_here", "_law_given", "_law_stages", "_law_k", "_law_stage", "_law_left", "_law_right", "_law_steps", "_law_start", "_law_end", "_law_line_here", "_law_changed", "_law_due"] "law" (defScope s_law) (He.ga K "law") cdv A outer s H E).nox (defBody s_law) t ∧ t { nx := fun _ H' => Q .non H', rt := Q } (start ["_law_script", "_law_state_here", "_law_operations_here", "_law_model_here", "_law_given", "_law_stages", "_law_k", "_law_stage", "_law_left", "_law_right", "_law_steps", "_law_start", "_law_end", "_law_line_here", "_law_changed", "_law_due"] vs) H := by
  unfold spLaw at h
  obtain ⟨ps, scr, rfl, hps, hscr, q⟩ := h
  refine ⟨_, pss_cons (ps_set (i := 1) sc_law.nd rfl (Or.inl rfl) (pe_cal (c_state T) (hr.mono (by omega)) rfl pass0 (pa_cons (pv 0) pa_nil)))
    (pss_cons (ps_set (i := 2) sc_law.nd rfl (Or.inl rfl) (pe_cal (c_ops T) (hr.mono (by omega)) rfl pass0 (pa_cons (pv 1) pa_nil)))
    (pss_cons (ps_set (i := 3) sc_law.nd rfl (Or.inl rfl) (pe_cal (c_model T) (hr.mono (by omega)) rfl pass0 (pa_cons (pv 1) (pa_cons (pv 2) (pa_cons (pe_op op_add pe_int (pe_cal (c_draw T) (hr.mono (by omega)) rfl pass0 (pa_cons (pv 1) (pa_cons pe_int pa_nil)))) pa_nil)))))
    (pss_cons (ps_set (i := 4) sc_law.nd rfl (Or.inl rfl) (pe_lst pa_nil))
    (pss_cons (ps_set (i := 5) sc_law.nd rfl (Or.inl rfl) (pe_lst pa_nil))
    (pss_cons (ps_for PassesOwn.never rfl (pi_range1 rfl T.z_range (pa_cons (pe_op op_add pe_int (pe_cal (c_draw T) (hr.mono (by omega)) rfl pass0 (pa_cons (pv 1) (pa_cons pe_int pa_nil)))) pa_nil)) (pg_name (i := 6) sc_law.nd rfl (Or.inl rfl))
      (pss_cons (ps_set (i := 7) sc_law.nd rfl (Or.inl rfl) (pe_cal (c_line T) (hr.mono (by omega)) rfl pass0 (pa_cons (pv 1) (pa_cons (pv 2) (pa_cons (pv 3) (pa_cons (pv 4) (pa_cons (pe_cal (c_draw T) (hr.mono (by omega)) rfl pass0 (pa_cons (pv 1) (pa_cons pe_int pa_nil))) pa_nil)))))))
      (pss_cons (ps_if (PW.pt (pw_and (pt_cmpR op_gt (pe_callB call_len rfl T.z_len (by decide +kernel) (pa_cons (pv 5) pa_nil)) pe_int (nomark _)) (pw_and1 (pt_cmpR op_eq (pe_cal (c_draw T) (hr.mono (by omega)) rfl pass0 (pa_cons (pv 1) (pa_cons pe_int pa_nil))) pe_int (nomark _)))))
        (pss_one (ps_set (i := 7) sc_law.nd rfl (Or.inl rfl) (pe_cal (c_by T) (hr.mono (by omega)) rfl pass0 (pa_cons (pv 1) (pa_cons (pv 5) (pa_cons (pe_ix ix_tup (pv 7) pe_int (fun _ _ => rfl)) (pa_cons (pe_ix ix_tup (pv 7) pe_int (fun _ _ => rfl)) (pa_cons (pe_ix ix_tup (pv 7) pe_int (fun _ _ => rfl)) pa_nil)))))))) pss_nil)
      (pss_one (ps_expr (pe_bm PySem.F.plainAttrs_list PySem.F.slot_list_append PySem.F.type_list_append mt_append (pv 5) (pa_cons (pv 7) pa_nil)))))))
    (pss_cons (ps_asg (pe_ix ix_list (pv 5) (pe_op op_sub (pe_callB call_len rfl T.z_len (by decide +kernel) (pa_cons (pv 5) pa_nil)) pe_int) (fun _ _ => rfl)) (pg_tup rfl (pgs_cons (pg_name (i := 8) sc_law.nd rfl (Or.inl rfl)) (pgs_cons (pg_name (i := 9) sc_law.nd rfl (Or.inl rfl)) (pgs_cons (pg_name (i := 10) sc_law.nd rfl (Or.inl rfl)) pgs_nil)))))
    (pss_cons (ps_if (pt_cmpR op_isnot_bl (pe_cal (c_der T B N hne) (hr.mono (by omega)) rfl pass0 (pa_cons (pe_callTy call_list_of rfl T.z_list (by decide +kernel) (pa_cons (pv 4) pa_nil)) (pa_cons (pv 8) (pa_cons (pv 9) (pa_cons (pe_callTy call_list_of rfl T.z_list (by decide +kernel) (pa_cons (pv 5) pa_nil)) pa_nil))))) pe_bl (nomark _)) (pss_one (ps_ret pe_bl)) pss_nil)
    (pss_cons (ps_for PassesOwn.never rfl (pi_list (pv 5)) (pg_tup rfl (pgs_cons (pg_name (i := 11) sc_law.nd rfl (Or.inl rfl)) (pgs_cons (pg_name (i := 12) sc_law.nd rfl (Or.inl rfl)) (pgs_cons (pg_name (i := 13) sc_law.nd rfl (Or.inl rfl)) pgs_nil))))
      (pss_one (ps_if (pt_cmpR op_isnot_bl (pe_cal (c_holds T) (hr.mono (by omega)) rfl pass0 (pa_cons (pv 3) (pa_cons (pv 11) (pa_cons (pv 12) pa_nil)))) pe_bl (nomark _)) (pss_one (ps_ret pe_bl)) pss_nil)))
    (pss_cons (ps_for PassesOwn.never rfl (pi_range1 rfl T.z_range (pa_cons pe_int pa_nil)) (pg_name (i := 6) sc_law.nd rfl (Or.inl rfl))
      (pss_cons (ps_if (pt_not (pt_val (pe_cal (c_refuses T B N hne) hr rfl pass0 (pa_cons (pv 4) (pa_cons (pv 3) (pa_cons (pe_cal (c_turned T) (hr.mono (by omega)) rfl pass0 (pa_cons (pv 1) (pa_cons (pv 2) (pa_cons (pv 5) pa_nil)))) pa_nil)))))) (pss_one (ps_ret pe_bl)) pss_nil)
      (pss_cons (ps_asg (pe_cal (c_spoilt T) (hr.mono (by omega)) rfl pass0 (pa_cons (pv 1) (pa_cons (pv 2) (pa_cons (pv 5) pa_nil)))) (pg_tup rfl (pgs_cons (pg_name (i := 8) sc_law.nd rfl (Or.inl rfl)) (pgs_cons (pg_name (i := 9) sc_law.nd rfl (Or.inl rfl)) (pgs_cons (pg_name (i := 10) sc_law.nd rfl (Or.inl rfl)) pgs_nil)))))
      (pss_cons (ps_set (i := 14) sc_law.nd rfl (Or.inl rfl) (pe_op op_cat (pe_slice sl_list (pv 5) po_none (po_some (pe_op op_sub (pe_callB call_len rfl T.z_len (by decide +kernel) (pa_cons (pv 5) pa_nil)) pe_int))) (pe_lst (pa_cons (pe_tup (pa_cons (pv 8) (pa_cons (pv 9) (pa_cons (pv 10) pa_nil)))) pa_nil))))
      (pss_cons (ps_set (i := 15) sc_law.nd rfl (Or.inl rfl) (pe_cmpR op_isN (pe_cal (c_lfd T) (hr.mono (by omega)) rfl pass0 (pa_cons (pv 3) (pa_cons (pv 8) (pa_cons (pv 9) pa_nil)))) pe_non (nomark _)))
      (pss_cons (ps_if (pt_cmpR op_ne (pe_cal (c_holds T) (hr.mono (by omega)) rfl pass0 (pa_cons (pv 3) (pa_cons (pv 8) (pa_cons (pv 9) pa_nil)))) (pv 15) (nomark _)) (pss_one (ps_ret pe_bl)) pss_nil)
      (pss_cons (ps_if (pt_cmpR op_isnot_bl (pe_cal (c_der T B N hne) (hr.mono (by omega)) rfl pass0 (pa_cons (pe_callTy call_list_of rfl T.z_list (by decide +kernel) (pa_cons (pv 4) pa_nil)) (pa_cons (pv 8) (pa_cons (pv 9) (pa_cons (pv 14) pa_nil))))) pe_bl (nomark _))
        (pss_one (ps_if (pt_cmpR op_notN (pe_cal (c_lfd T) (hr.mono (by omega)) rfl pass0 (pa_cons (pv 3) (pa_cons (pv 8) (pa_cons (pv 9) pa_nil)))) pe_non (nomark _)) (pss_one (ps_ret pe_bl)) pss_nil)) pss_nil)
      (pss_one (ps_if (pt_cmpR op_isnot_bl (pe_cal (c_der T B N hne) (hr.mono (by omega)) rfl pass0 (pa_cons (pe_callTy call_list_of rfl T.z_list (by decide +kernel) (pa_cons (pv 4) pa_nil)) (pa_cons (pv 8) (pa_cons (pv 9) (pa_cons (pe_callTy call_list_of rfl T.z_list (by decide +kernel) (pa_cons (pv 5) pa_nil)) pa_nil))))) pe_bl (nomark _))
        (pss_one (ps_if (pt_cmpR op_notN (pe_cal (c_lfd T) (hr.mono (by omega)) rfl pass0 (pa_cons (pv 3) (pa_cons (pv 8) (pa_cons (pv 9) pa_nil)))) pe_non (nomark _)) (pss_one (ps_ret pe_bl)) pss_nil)) pss_nil)))))))))
    (pss_one (ps_ret pe_bl))))))))))), ?_⟩
  refine rd_let (rd_call1 (rd_var rfl (spState.i hps hscr fun a sc H1 s1 st1 na => ?_)))
  refine rd_let (rd_call1 (rd_var rfl (spOps.i st1 fun o ops os H2 hgo no1 ho1 ho2 f2 st2 => ?_)))
  have op2 : IsOps H2 ops o := ⟨os, ho1, ho2⟩
  have oa : o ≠ a := op2.ne hgo st2
  refine rd_let (rd_call3 (rd_var rfl (rd_var rfl (rd_op (rd_c (rd_call2 (rd_var rfl (rd_c (spDraw.i (by decide) (by decide) st2 fun n H3 hn f3 st3 => ⟨_, _, rfl, rfl, ?_⟩)))))))))
  have op3 := op2.fr hgo st2 f3
  show spModel [.ref a, .ref o, .int (1 + (n : Int))] _ _ _
  rw [show (1 + (n : Int)) = ((1 + n : Nat) : Int) by omega]
  refine spModel.i (by omega) (by omega) st3 hgo op3 fun m M H4 hMf hM hm f4 st4 => ?_
  have op4 := op3.fr hgo st3 f4
  refine rd_let (rd_lst0 fun g ng => ?_)
  have u5 : Same H4 (upd H4 g (.lst [])) := Same.new ng _
  obtain ⟨ga, gc⟩ := st4.ne ng
  have go : g ≠ o := by obtain ⟨os, e, _⟩ := op4; exact ne_new e ng
  refine rd_let (rd_lst0 fun sl nsl => ?_)
  have u6 : Same (upd H4 g (.lst [])) (upd (upd H4 g (.lst [])) sl (.lst [])) := Same.new nsl _
  have u46 := u5.trans u6
  obtain ⟨sa, sk⟩ := (st4.mono u5).ne nsl
  have so : sl ≠ o := by obtain ⟨os, e, _⟩ := op4.same u5; exact ne_new e nsl
  have sg : sl ≠ g := ne_new upd_same nsl
  have L0 : LI a sc o g sl ops M m [] [] (upd (upd H4 g (.lst [])) sl (.lst [])) := ⟨st4.mono u46, op4.same u46, hm.mono u46, ga, gc, go, sa, sk, so, sg, ⟨[], u6 _ _ upd_same, A2.nil⟩, ⟨[], upd_same, A2.nil⟩, (fun _ z => (by cases z)), (fun _ z => (by cases z)), fun _ => rfl⟩
  generalize upd (upd H4 g (.lst [])) sl (.lst []) = H6 at L0
  refine rd_seq (rd_for (rd_rng1 (rd_cons1 (rd_op (rd_c (rd_call2 (rd_var rfl (rd_c (spDraw.i (by decide) (by decide) L0.st fun cnt H7 hcnt f7 st7 => ⟨_, _, rfl, rfl, _, rfl, by omega, by omega, ?_⟩)))))))))
  have L7 := L0.fr hgo f7 st7
  rw [show ((1 : Int) + (cnt : Int)).toNat = cnt + 1 by omega]
  refine for_range (lo := 0) (n := cnt + 1) (fun i σ H' => ∃ z6 z7 given stages, σ = [some (.ref ps), some (.ref a), some (.ref o), some m, some (.ref g), some (.ref sl), z6, z7, none, none, none, none, none, none, none, none] ∧ LI a sc o g sl ops M m given stages H' ∧ stages.length = i ∧ given.length ≤ 3 * i)
    ⟨_, _, [], [], rfl, L7, rfl, Nat.le_refl _⟩ ?_ ?_
  · rintro i σ H8 hi ⟨z6, z7, given, stages, rfl, L, hsl, hgl⟩
    refine rd_name (rd_let (rd_call5 (rd_var rfl (rd_var rfl (rd_var rfl (rd_var rfl (rd_call2 (rd_var rfl (rd_c (spDraw.i (by decide) (by decide) L.st fun k9 H9 hk9 f9 st9 => ?_))))))))))
    have L9 := L.fr hgo f9 st9
    obtain ⟨gs9, g1, g2⟩ := L9.gv
    obtain ⟨ss9, s91, s92⟩ := L9.ss
    refine spLine.i (by omega) st9 hgo L9.op hMf hM L9.md ga gc go g1 g2 (by omega) fun v q9 sg9 more gs' H10 nq hv lok hg' hgs' f10 n10 st10 => ?_
    have L10 := L9.line hgo f10 n10 st10 hg' hgs' lok.ge
    have hqN : q9 ∉ [a, g, sl] := fun z => by
      obtain ⟨xs, e⟩ := L9.lists q9 z
      rw [nq] at e
      cases e
    have hml := lok.ml
    have sn : sl ∉ [a, g] := fun z => (List.mem_cons.mp z).elim sa fun z => sg (List.mem_singleton.mp z)
    have ss10 : H10 sl = some (.lst ss9) := f10.keep sn s91
    have hssl := s92.len
    -- the turn's end
    have fin : ∀ (v : V) (s' : Stg) (q' : Addr) (H' : Hp), LI a sc o g sl ops M m (given ++ more) stages H' → H' sl = some (.lst ss9) → IsStgAt H' s' v q' → q' ∉ [a, g, sl] → GoodSt ops s' → (∀ G, leadsB (given ++ more ++ G) stages s' = true) →
        LI a sc o g sl ops M m (given ++ more) (stages ++ [s']) (upd H' sl (.lst (ss9 ++ [v]))) ∧ (stages ++ [s']).length = i + 1 ∧ (given ++ more).length ≤ 3 * (i + 1) := fun v s' q' H' L' hs' h1 h2 h3 h4 =>
      ⟨L'.add hs' h1 h2 h3 h4, by rw [List.length_append, hsl]; rfl, by rw [List.length_append]; omega⟩
    have gst : GoodSt ops sg9 := ⟨lok.gs, lok.dl, lok.dr⟩
    refine rd_when1 (rd_and (rd_test (rd_op (rd_B1 (rd_var rfl ⟨_, _, rfl, .inl ⟨_, sql ss10, rfl⟩, _, _, rfl, rfl, _, rfl, ?_⟩)))))
    split
    · rename_i hpos
      have hpos : (0 : Int) < ((ss9.length : Nat) : Int) := of_decide_eq_true hpos
      have hne' : stages ≠ [] := fun z => by
        rw [z] at hssl
        rw [hssl] at hpos
        exact absurd hpos (by decide)
      refine rd_test (rd_op (rd_call2 (rd_var rfl (rd_c (spDraw.i (by decide) (by decide) st10 fun k11 H11 hk11 f11 st11 => ⟨rfl, _, rfl, ?_⟩)))))
      have L11 := L10.fr hgo f11 st11
      have ss11 : H11 sl = some (.lst ss9) := f11.keep (fun z => sa (List.mem_singleton.mp z)) ss10
      split
      · obtain ⟨pp, x1, x2, us, rfl, hp, h1, h2, h3, h4⟩ := hv
        have hp11 := tups_st st10 f11 _ _ hp
        obtain ⟨ss11', e1, e2⟩ := L11.ss
        rw [ss11] at e1
        have e1 := HO.lst.inj (Option.some.inj e1)
        subst e1
        refine rd_set (rd_call5 (rd_var rfl (rd_var rfl (rd_ixTc rfl hp11 at0 (rd_ixTc rfl hp11 at1 (rd_ixTc rfl hp11 at2 (spBy.i st11 hgo sa ss11 (e2.stgs no_same) hne' (by omega) (fun s hs => L11.sgd s hs) fun v2 q2 s2 H12 nq2 hv2 gs2 d1 d2 ok2 f12 st12 => rd_nx ?_)))))))
        have L12 := L11.fr hgo f12 st12
        have ss12 : H12 sl = some (.lst ss9) := f12.keep (fun z => sa (List.mem_singleton.mp z)) ss11
        have hqN2 : q2 ∉ [a, g, sl] := fun z => by
          obtain ⟨xs, e⟩ := L11.lists q2 z
          rw [nq2] at e
          cases e
        obtain ⟨r1, r2, r3⟩ := fin v2 s2 q2 H12 L12 ss12 hv2 hqN2 ⟨gs2, d1, d2⟩ fun G => ok2 _
        exact rd_app rfl ss12 (rd_var rfl (rd_app' ss12 (by omega) ⟨_, _, _, _, rfl, r1, r2, r3⟩))
      · have n11 := NL.st st10 f11
        have hv11 : IsStgAt H11 sg9 v q9 := by
          obtain ⟨pp, x1, x2, us, rfl, hp, h1, h2, h3, h4⟩ := hv
          exact ⟨pp, x1, x2, us, rfl, n11.tups _ _ hp, h1.mono n11.tups, h2.mono n11.tups, f11.keep (fun z => hqN (by rw [List.mem_singleton.mp z]; exact List.mem_cons_self)) h3, h4.stpsN n11⟩
        obtain ⟨r1, r2, r3⟩ := fin v sg9 q9 H11 L11 ss11 hv11 hqN gst fun G => lok.leads G _
        exact rd_app rfl ss11 (rd_var rfl (rd_app' ss11 (by omega) ⟨_, _, _, _, rfl, r1, r2, r3⟩))
    · obtain ⟨r1, r2, r3⟩ := fin v sg9 q9 H10 L10 ss10 hv hqN gst fun G => lok.leads G _
      exact rd_app rfl ss10 (rd_var rfl (rd_app' ss10 (by omega) ⟨_, _, _, _, rfl, r1, r2, r3⟩))
  · rintro σ H8 ⟨z6, z7, given, stages, rfl, L, hsl, hgl⟩
    have hne' : stages ≠ [] := fun z => by rw [z] at hsl; cases hsl
    have hs100 : stages.length ≤ 100 := by omega
    have hg1000 : given.length ≤ 1000 := by omega
    have hlay : ∀ {H' : Hp}, LI a sc o g sl ops M m given stages H' → ∃ gs ss, H' g = some (.lst gs) ∧ A2 (IsEq H') given gs ∧ H' sl = some (.lst ss) ∧ A2 (IsStg H') stages ss := fun L' => by
      obtain ⟨gs, h1, h2⟩ := L'.gv
      obtain ⟨ss, h3, h4⟩ := L'.ss
      exact ⟨gs, ss, h1, h2, h3, h4.stgs no_same⟩
    have gg1 : ∀ e ∈ given, GoodEq e := fun e he => (L.gg e he).1
    have gg2 : ∀ e ∈ given, HoldsIn M e.1 e.2 := fun e he => (L.gg e he).2
    have gs1 : ∀ s ∈ stages, GoodStg s := fun s hs => (L.sgd s hs).1
    have hder : derB given [] stages = true := by have := L.der []; rwa [List.append_nil] at this
    have hof : ∀ {t : Tm}, Drawn ops 3 t → t.ofs M.fs := fun d => by rw [hMf]; exact d.fs
    have allh : ∀ s ∈ stages, HoldsIn M s.l s.r := derB_sound hM gg2 (earlier := []) (fun _ z => by cases z) hder
    obtain ⟨gs8, ss8, g1, g2, g3, g4⟩ := hlay L
    obtain ⟨sg8, v8, hla, hvl, hsg⟩ := g4.getLast hne'
    have gsg := L.sgd _ (List.mem_of_getLast? hla)
    obtain ⟨p8, x1, x2, q8, us, rfl, hp, h1, h2, h3, h4⟩ := hsg
    refine rd_nx (rd_seq (rd_asg (rd_ixL (rd_var rfl (rd_op (rd_B1 (rd_var rfl ⟨_, _, rfl, .inl ⟨_, sql g3, rfl⟩, _, _, rfl, rfl, sl, ss8, _, _, rfl, rfl, sql g3, at_len hvl, rd_unl3 rfl hp ?_⟩)))))))
    refine rd_nx (rd_when1 (rd_test (rd_op (rd_call4 (rd_B1 (rd_var rfl ⟨g, gs8, rfl, .inl (sql g1), fun g' ng' => rd_var rfl (rd_var rfl (rd_B1 (rd_var rfl ⟨sl, ss8, rfl, .inl (sql (Same.new ng' _ _ _ g3)), fun sl' nsl' => ?_⟩)))⟩))))))
    have u1 : Same H8 (upd H8 g' (.lst gs8)) := Same.new ng' _
    have u2 : Same (upd H8 g' (.lst gs8)) (upd (upd H8 g' (.lst gs8)) sl' (.lst ss8)) := Same.new nsl' _
    have u := u1.trans u2
    have lay2 : Lay (upd (upd H8 g' (.lst gs8)) sl' (.lst ss8)) given stages g' sl' := ⟨⟨gs8, ss8, u2 _ _ upd_same, g2.eqs (Tups.same u), upd_same, g4.stgs u⟩, gg1, gs1⟩
    refine spDer.i lay2 (by omega) (h1.mono (Tups.same u)) (h2.mono (Tups.same u)) gsg.1.l.tx gsg.1.r.tx fun H9 s9 => ⟨_, _, rfl, rfl, _, rfl, ?_⟩
    have hdt : derivB given sg8.l sg8.r stages = true := by
      unfold derivB
      rw [hla]
      dsimp only
      rw [hder, decide_eq_true rfl, decide_eq_true rfl]
      rfl
    rw [hdt]
    refine iteF ?_
    have L9 := L.same hgo (u.trans s9)
    obtain ⟨gs9, ss9, k1, k2, k3, k4⟩ := hlay L9
    refine rd_seq (rd_for (rd_listv rfl k3 ?_))
    have hl9 := k4.len
    refine for_list (K := K) (a := sl) (xs := ss9) (fun i σ H' => ∃ z11 z12 z13, σ = [some (.ref ps), some (.ref a), some (.ref o), some m, some (.ref g), some (.ref sl), z6, z7, some x1, some x2, some (.ref q8), z11, z12, z13, none, none] ∧ Same H9 H') ⟨_, _, _, rfl, Same.refl _⟩ (fun i σ H' _ hh => ?_) ?_ ?_
    · obtain ⟨z11, z12, z13, rfl, c1⟩ := hh
      exact sql (c1 _ _ k3)
    · rintro i v σ H10 hi ⟨z11, z12, z13, rfl, c1⟩
      obtain ⟨st, hst, ist⟩ := k4.get hi
      have hm1 := List.mem_of_getElem? hst
      obtain ⟨gst, d1, d2⟩ := L.sgd st hm1
      obtain ⟨pp, y1, y2, qq, us2, rfl, hp2, i1, i2, _⟩ := ist.mono c1
      refine rd_unl3 rfl hp2 (rd_if (rd_test (rd_op (rd_call3 (rd_var rfl (rd_var rfl (rd_var rfl (spHolds.i (L9.md.mono c1) (Nat.le_trans hM.le (by decide)) i1 i2 gst.l gst.r (hof d1) (hof d2) fun H11 s11 => ⟨_, _, rfl, rfl, _, rfl, ?_⟩))))))))
      rw [(holdsB_iff hM.pos).mpr (allh st hm1)]
      exact iteF (rd_next ⟨_, _, _, rfl, c1.trans s11⟩)
    · rintro σ H10 ⟨z11, z12, z13, rfl, c1⟩
      have L10 := L9.same hgo c1
      refine rd_nx (rd_seq (rd_for (rd_rng1 (rd_cons1 (rd_c ⟨6, rfl, by decide, by decide, ?_⟩)))))
      refine for_range (lo := 0) (n := 6) (fun i σ H' => ∃ z6 z8 z9 z10 z14 z15, σ = [some (.ref ps), some (.ref a), some (.ref o), some m, some (.ref g), some (.ref sl), z6, z7, z8, z9, z10, z11, z12, z13, z14, z15] ∧ LI a sc o g sl ops M m given stages H') ⟨_, _, _, _, _, _, rfl, L10⟩ ?_ ?_
      · rintro i σ H11 hi ⟨z6, z8, z9, z10, z14, z15, rfl, L11⟩
        obtain ⟨ss11, n1, n2⟩ := L11.ss
        refine rd_name (rd_when1 (rd_not (rd_B (rd_call3 (rd_var rfl (rd_var rfl (rd_call3 (rd_var rfl (rd_var rfl (rd_var rfl (spTurn.i L11.st hgo L11.op sa n1 List.mem_cons_self n2 hne' hs100 L11.sgd fun l ss' more H12 t1 t2 t3 t4 t5 f12 st12 => ?_)))))))))))
        have L12 := L11.fr hgo f12 st12
        obtain ⟨gs12, m1, m2⟩ := L12.gv
        have allg : ∀ s ∈ stages ++ more, GoodSt ops s := fun s hs => (List.mem_append.mp hs).elim (L11.sgd s) (t5 s)
        refine spRef.i hMf hM L12.md ⟨⟨gs12, ss', m1, m2, t1, t2⟩, gg1, fun s hs => (allg s hs).1⟩ gg2 (by simp [hne']) (by rw [List.length_append]; omega) (fun s hs => allg s (List.mem_of_getLast? hs)) fun H13 s13 => ⟨_, rfl, ?_⟩
        refine iteF ?_
        have L13 := L12.same hgo s13
        obtain ⟨ss13, n3, n4⟩ := L13.ss
        have hN : ∀ b ∈ [a, g, sl], H13 b ≠ none := fun b hb z => by
          obtain ⟨xs, e⟩ := L13.lists b hb
          rw [z] at e
          cases e
        refine rd_seq (rd_asg (rd_call3 (rd_var rfl (rd_var rfl (rd_var rfl (spSpoilt.i L13.st hgo L13.op sa n3 List.mem_cons_self hN n4 hne' hs100 L13.sgd fun v q s' H14 hq hv gs' f14 st14 => ?_))))))
        have L14 := L13.fr hgo f14 st14
        obtain ⟨pp, y1, y2, us2, rfl, hp2, i1, i2, i3, i4⟩ := hv
        obtain ⟨gsg', dl', dr'⟩ := gs'
        refine rd_unl3 rfl hp2 (rd_nx ?_)
        obtain ⟨gs14, ss14, j1, j2, j3, j4⟩ := hlay L14
        have hl14 := j4.len
        have hpos : 0 < stages.length := List.length_pos_iff.mpr hne'
        refine rd_let (rd_op ?_)
        refine ⟨_, rfl, rd_op (rd_B1 (rd_var rfl ⟨_, _, rfl, .inl ⟨_, sql j3, rfl⟩, _, _, rfl, rfl, ((ss14.length - 1 : Nat) : Int), ?_, sl, ss14, rfl, sql j3, fun p1 m1' => ?_⟩))⟩
        · show V.int (((ss14.length : Nat) : Int) - 1) = _
          rw [show ((ss14.length : Nat) : Int) - 1 = ((ss14.length - 1 : Nat) : Int) by omega]
        rw [cut_hi (Nat.sub_le _ _)]
        have w1 : Same H14 (upd H14 p1 (.lst (ss14.take (ss14.length - 1)))) := Same.new m1' _
        refine rd_lst (rd_cons1 (rd_tup (rd_cons3 (rd_var rfl (rd_var rfl (rd_var rfl ⟨ln_ok, fun tp mt => ⟨ln_ok, fun p2 m2' => ?_⟩⟩))))))
        have w2 : Same (upd H14 p1 (.lst (ss14.take (ss14.length - 1)))) (upd (upd H14 p1 (.lst (ss14.take (ss14.length - 1)))) tp (.tup [y1, y2, .ref q])) := Same.new mt _
        have w3 : Same (upd (upd H14 p1 (.lst (ss14.take (ss14.length - 1)))) tp (.tup [y1, y2, .ref q])) (upd (upd (upd H14 p1 (.lst (ss14.take (ss14.length - 1)))) tp (.tup [y1, y2, .ref q])) p2 (.lst [.ref tp])) := Same.new m2' _
        refine ⟨p1, p2, ss14.take (ss14.length - 1), [.ref tp], rfl, rfl, w3 _ _ (w2 _ _ upd_same), upd_same, by rw [List.length_take, sizeLine_eq]; simp; omega, fun C mC => ?_⟩
        have w4 : Same (upd (upd (upd H14 p1 (.lst (ss14.take (ss14.length - 1)))) tp (.tup [y1, y2, .ref q])) p2 (.lst [.ref tp])) (upd (upd (upd (upd H14 p1 (.lst (ss14.take (ss14.length - 1)))) tp (.tup [y1, y2, .ref q])) p2 (.lst [.ref tp])) C (.lst (ss14.take (ss14.length - 1) ++ [.ref tp]))) := Same.new mC _
        have wa := ((w1.trans w2).trans w3).trans w4
        have hC : (upd (upd (upd (upd H14 p1 (.lst (ss14.take (ss14.length - 1)))) tp (.tup [y1, y2, .ref q])) p2 (.lst [.ref tp])) C (.lst (ss14.take (ss14.length - 1) ++ [.ref tp]))) C = some (.lst (ss14.take (ss14.length - 1) ++ [.ref tp])) := upd_same
        have hTp : (upd (upd (upd (upd H14 p1 (.lst (ss14.take (ss14.length - 1)))) tp (.tup [y1, y2, .ref q])) p2 (.lst [.ref tp])) C (.lst (ss14.take (ss14.length - 1) ++ [.ref tp]))) tp = some (.tup [y1, y2, .ref q]) := w4 _ _ (w3 _ _ upd_same)
        generalize upd (upd (upd (upd H14 p1 (.lst (ss14.take (ss14.length - 1)))) tp (.tup [y1, y2, .ref q])) p2 (.lst [.ref tp])) C (.lst (ss14.take (ss14.length - 1) ++ [.ref tp])) = H15 at wa hC hTp
        have L15 := L14.same hgo wa
        have i1' := i1.mono (Tups.same wa)
        have i2' := i2.mono (Tups.same wa)
        have newS : IsStg H15 s' (.ref tp) := ⟨tp, y1, y2, q, us2, rfl, hTp, i1', i2', wa _ _ i3, i4.stps wa⟩
        have chg : A2 (IsStg H15) (stages.take (ss14.length - 1) ++ [s']) (ss14.take (ss14.length - 1) ++ [.ref tp]) := ((j4.stgs wa).take _).app (A2.one newS)
        have lfd : ∀ {H' : Hp} {QQ : VK} {EE : XK}, Same H15 H' → (∀ v H'', Same H' H'' → (v = .non ↔ HoldsIn M s'.l s'.r) → QQ v H'') → spLFd [m, y1, y2] H' QQ EE := fun {H' QQ EE} sm k =>
          spLFd.i (L15.md.mono sm) hM.pos hM.le (i1'.mono (Tups.same sm)) (i2'.mono (Tups.same sm)) gsg'.l.d (Nat.le_trans gsg'.l.z (by decide)) gsg'.r.d (Nat.le_trans gsg'.r.z (by decide)) (hof dl') (hof dr') (lv2_5 dl'.in4 dr'.in4) k
        refine rd_let (rd_op (rd_call3 (rd_var rfl (rd_var rfl (rd_var rfl (lfd (Same.refl _) fun v1 H16 s16 hv1 => ⟨rfl, ?_⟩))))))
        refine rd_when1 (rd_test (rd_op (rd_call3 (rd_var rfl (rd_var rfl (rd_var rfl (spHolds.i (L15.md.mono s16) (Nat.le_trans hM.le (by decide)) (i1'.mono (Tups.same s16)) (i2'.mono (Tups.same s16)) gsg'.l gsg'.r (hof dl') (hof dr') fun H17 s17 => rd_var rfl ⟨rfl, _, rfl, ?_⟩)))))))
        have hbe : holdsB M s'.l s'.r = decide (v1 = .non) := by
          by_cases e : v1 = .non
          · rw [decide_eq_true e]; exact (holdsB_iff hM.pos).mpr (hv1.mp e)
          · rw [decide_eq_false e]; exact Bool.eq_false_iff.mpr fun z => e (hv1.mpr ((holdsB_iff hM.pos).mp z))
        rw [hbe, decide_eq_true rfl]
        refine iteF ?_
        have s1517 := s16.trans s17
        have L17 := L15.same hgo s1517
        obtain ⟨gs17, r1, r2⟩ := L17.gv
        refine rd_when1 (rd_test (rd_op (rd_call4 (rd_B1 (rd_var rfl ⟨g, gs17, rfl, .inl (sql r1), fun g2' ng2 => rd_var rfl (rd_var rfl (rd_var rfl ?_))⟩)))))
        have x17 : Same H17 (upd H17 g2' (.lst gs17)) := Same.new ng2 _
        have s1518 := s1517.trans x17
        have chgood : ∀ s ∈ stages.take (ss14.length - 1) ++ [s'], GoodStg s := fun s hs => (List.mem_append.mp hs).elim (fun z => gs1 s (List.mem_of_mem_take z)) fun z => by rw [List.mem_singleton.mp z]; exact gsg'
        have lay17 : Lay (upd H17 g2' (.lst gs17)) given (stages.take (ss14.length - 1) ++ [s']) g2' C := ⟨⟨gs17, _, upd_same, r2.eqs (Tups.same x17), s1518 _ _ hC, chg.stgs s1518⟩, gg1, chgood⟩
        -- the last two questions: their answers may be yes only where the ends agree
        have again : ∀ {b : Bool} {H' : Hp} {QQ : VK} {EE : XK}, Same H15 H' → (b = true → HoldsIn M s'.l s'.r) → b = true → (∀ H'', Same H' H'' → QQ .non H'') → spLFd [m, y1, y2] H' QQ EE := fun {b H' QQ EE} sm hb hbt k =>
          lfd sm fun v H'' s'' hv => by
            have e : v = .non := hv.mpr (hb hbt)
            subst e
            exact k H'' s''
        refine spDer.i lay17 (by rw [List.length_append, List.length_take]; simp; omega) (i1'.mono (Tups.same s1518)) (i2'.mono (Tups.same s1518)) gsg'.l.tx gsg'.r.tx fun H18 s18 => ⟨_, _, rfl, rfl, _, rfl, ?_⟩
        have s18' := s1518.trans s18
        have L18 := L15.same hgo s18'
        apply cut_all (F := fun H' => Same H15 H')
        · intro hE
          cases hb : derivB given s'.l s'.r (stages.take (ss14.length - 1) ++ [s']) with
          | false => exact iteF (hE H18 s18')
          | true =>
            refine iteT (rd_if (rd_test (rd_op (rd_call3 (rd_var rfl (rd_var rfl (rd_var rfl (again s18' (fun z => derivB_sound hM gg2 z) hb fun H19 s19 => ⟨rfl, _, rfl, ?_⟩))))))))
            exact iteF (rd_next (hE H19 (s18'.trans s19)))
        · intro H20 s20
          have L20 := L15.same hgo s20
          obtain ⟨gs20, ss20, e1, e2, e3, e4⟩ := hlay L20
          refine rd_if (rd_test (rd_op (rd_call4 (rd_B1 (rd_var rfl ⟨g, gs20, rfl, .inl (sql e1), fun g3' ng3 => rd_var rfl (rd_var rfl (rd_B1 (rd_var rfl ⟨sl, ss20, rfl, .inl (sql (Same.new ng3 _ _ _ e3)), fun sl3 nsl3 => ?_⟩)))⟩)))))
          have b1 : Same H20 (upd H20 g3' (.lst gs20)) := Same.new ng3 _
          have b2 : Same (upd H20 g3' (.lst gs20)) (upd (upd H20 g3' (.lst gs20)) sl3 (.lst ss20)) := Same.new nsl3 _
          have bb := b1.trans b2
          have s21 := s20.trans bb
          have lay21 : Lay (upd (upd H20 g3' (.lst gs20)) sl3 (.lst ss20)) given stages g3' sl3 := ⟨⟨gs20, ss20, b2 _ _ upd_same, e2.eqs (Tups.same bb), upd_same, e4.stgs bb⟩, gg1, gs1⟩
          refine spDer.i lay21 (by omega) (i1'.mono (Tups.same s21)) (i2'.mono (Tups.same s21)) gsg'.l.tx gsg'.r.tx fun H22 s22 => ⟨_, _, rfl, rfl, _, rfl, ?_⟩
          have s22' := s21.trans s22
          cases hb : derivB given s'.l s'.r stages with
          | false => exact iteF (rd_next ⟨_, _, _, _, _, _, rfl, L15.same hgo s22'⟩)
          | true =>
            refine iteT (rd_if (rd_test (rd_op (rd_call3 (rd_var rfl (rd_var rfl (rd_var rfl (again s22' (fun z => derivB_sound hM gg2 z) hb fun H23 s23 => ⟨rfl, _, rfl, ?_⟩))))))))
            exact iteF (rd_next ⟨_, _, _, _, _, _, rfl, L15.same hgo (s22'.trans s23)⟩)
      · rintro σ H11 ⟨z6, z8, z9, z10, z14, z15, rfl, L11⟩
        exact rd_nx (rd_ret (rd_c (q H11)))
end
end K65
set_option maxHeartbeats 0
namespace K65
open PySem PySem.Spec PyProof.Rows L2
/-! ### the head: what the top has written -/
def dOf (x : Str) (st : Stmt) : He.DefD := ⟨(x, none), x, x, defArgs st, defBody st, defScope st, [], []⟩
def d_is_variable : He.DefD := dOf "is_variable" s_is_variable
def d_size : He.DefD := dOf "size" s_size
def d_depth : He.DefD := dOf "depth" s_depth
def d_symbols : He.DefD := dOf "symbols" s_symbols
def d_variables : He.DefD := dOf "variables" s_variables
def d_has_argument : He.DefD := dOf "has_argument" s_has_argument
def d_subterm : He.DefD := dOf "subterm" s_subterm
def d_replace : He.DefD := dOf "replace" s_replace
def d_substitute : He.DefD := dOf "substitute" s_substitute
def d_is_wide : He.DefD := dOf "is_wide" s_is_wide
def d_named_equation : He.DefD := dOf "named_equation" s_named_equation
def d_binds_exactly : He.DefD := dOf "binds_exactly" s_binds_exactly
def d_apply_step : He.DefD := dOf "apply_step" s_apply_step
def d_visited : He.DefD := dOf "visited" s_visited
def d_leads : He.DefD := dOf "leads" s_leads
def d_is_derivation : He.DefD := dOf "is_derivation" s_is_derivation
def d_value : He.DefD := dOf "value" s_value
def d_first_difference : He.DefD := dOf "first_difference" s_first_difference
def d_equation_variables : He.DefD := dOf "equation_variables" s_equation_variables
def d_counterexample : He.DefD := dOf "counterexample" s_counterexample
def d_holds : He.DefD := dOf "holds" s_holds
def d_L_mix : He.DefD := dOf "_law_mix" s_L_mix
def d_L_number : He.DefD := dOf "_law_number" s_L_number
def d_L_state : He.DefD := dOf "_law_state" s_L_state
def d_L_draw : He.DefD := dOf "_law_draw" s_L_draw
def d_L_word : He.DefD := dOf "_law_word" s_L_word
def d_L_names : He.DefD := dOf "_law_names" s_L_names
def d_L_operations : He.DefD := dOf "_law_operations" s_L_operations
def d_L_leaf : He.DefD := dOf "_law_leaf" s_L_leaf
def d_L_term : He.DefD := dOf "_law_term" s_L_term
def d_L_subterm : He.DefD := dOf "_law_subterm" s_L_subterm
def d_L_replace : He.DefD := dOf "_law_replace" s_L_replace
def d_L_positions : He.DefD := dOf "_law_positions" s_L_positions
def d_L_substitute : He.DefD := dOf "_law_substitute" s_L_substitute
def d_L_variables : He.DefD := dOf "_law_variables" s_L_variables
def d_L_pattern : He.DefD := dOf "_law_pattern" s_L_pattern
def d_L_step : He.DefD := dOf "_law_step" s_L_step
def d_L_tuples : He.DefD := dOf "_law_tuples" s_L_tuples
def d_L_model : He.DefD := dOf "_law_model" s_L_model
def d_L_value : He.DefD := dOf "_law_value" s_L_value
def d_L_equation_names : He.DefD := dOf "_law_equation_names" s_L_equation_names
def d_L_first_difference : He.DefD := dOf "_law_first_difference" s_L_first_difference
def d_L_true_step : He.DefD := dOf "_law_true_step" s_L_true_step
def d_L_line : He.DefD := dOf "_law_line" s_L_line
def d_L_by_stage : He.DefD := dOf "_law_by_stage" s_L_by_stage
def d_L_spoilt : He.DefD := dOf "_law_spoilt" s_L_spoilt
def d_L_refuses : He.DefD := dOf "_law_refuses" s_L_refuses
def d_L_turned : He.DefD := dOf "_law_turned" s_L_turned
def d_law : He.DefD := dOf "law" s_law
def fn : List He.DefD := ([d_is_variable, d_size, d_depth, d_symbols, d_variables, d_has_argument, d_subterm, d_replace, d_substitute, d_is_wide, d_named_equation, d_binds_exactly, d_apply_step, d_visited, d_leads, d_is_derivation, d_value, d_first_difference, d_equation_variables, d_counterexample, d_holds, d_L_mix, d_L_number, d_L_state, d_L_draw] : List He.DefD) ++ ([d_L_word, d_L_names, d_L_operations, d_L_leaf, d_L_term, d_L_subterm, d_L_replace, d_L_positions, d_L_substitute, d_L_variables, d_L_pattern, d_L_step, d_L_tuples, d_L_model, d_L_value, d_L_equation_names, d_L_first_difference, d_L_true_step, d_L_line, d_L_by_stage, d_L_spoilt, d_L_refuses, d_L_turned, d_law] : List He.DefD)
def fa : List He.Fa := ([.glo "is_variable", .glo "size", .glo "depth", .glo "symbols", .glo "variables", .glo "has_argument", .glo "subterm", .glo "replace", .glo "substitute", .glo "is_wide", .glo "named_equation", .glo "binds_exactly", .glo "apply_step", .glo "visited", .glo "leads", .glo "is_derivation", .glo "value", .glo "first_difference", .glo "equation_variables", .glo "counterexample", .glo "holds", .glo "_law_mix", .glo "_law_number", .glo "_law_state", .glo "_law_draw"] : List He.Fa) ++ ([.glo "_law_word", .glo "_law_names", .glo "_law_operations", .glo "_law_leaf", .glo "_law_term", .glo "_law_subterm", .glo "_law_replace", .glo "_law_positions", .glo "_law_substitute", .glo "_law_variables", .glo "_law_pattern", .glo "_law_step", .glo "_law_tuples", .glo "_law_model", .glo "_law_value", .glo "_law_equation_names", .glo "_law_first_difference", .glo "_law_true_step", .glo "_law_line", .glo "_law_by_stage", .glo "_law_spoilt", .glo "_law_refuses", .glo "_law_turned", .glo "law", .glo "HallError"] : List He.Fa) ++ ([.glo "BadStep", .glo "NoPosition"] : List He.Fa) ++ ([.free "isinstance", .free "int", .free "len", .free "max", .free "tuple", .free "sorted", .free "set", .free "range", .free "enumerate", .free "list", .free "super", .free "ValueError", .free "dict"] : List He.Fa) ++ ([.int "WIDE_SIZE" 4000, .int "WIDE_DEPTH" 120, .exc "NoPosition", .exm "NoPosition" "NoPosition" true, .exm "BadStep" "BadStep" true, .keep "BadStep"] : List He.Fa)
def names : List Str := (["HallError", "BadStep", "NoPosition", "WIDE_SIZE", "WIDE_DEPTH", "is_variable", "size", "depth", "symbols", "variables", "has_argument", "subterm", "replace", "substitute", "is_wide", "named_equation", "binds_exactly", "apply_step", "visited", "leads", "is_derivation", "value", "first_difference", "equation_variables", "counterexample"] : List Str) ++ (["holds", "_law_mix", "_law_number", "_law_state", "_law_draw", "_law_word", "_law_names", "_law_operations", "_law_leaf", "_law_term", "_law_subterm", "_law_replace", "_law_positions", "_law_substitute", "_law_variables", "_law_pattern", "_law_step", "_law_tuples", "_law_model", "_law_value", "_law_equation_names", "_law_first_difference", "_law_true_step", "_law_line", "_law_by_stage"] : List Str) ++ (["_law_spoilt", "_law_refuses", "_law_turned"] : List Str)
/-- BadStep, its __init__ -/
abbrev aBad (K : PySem.W.Frag) : Addr := He.ga K "BadStep"
abbrev aInit (K : PySem.W.Frag) : Addr := He.ma K (aBad K) "__init__"
abbrev aNo (K : PySem.W.Frag) : Addr := He.ga K "NoPosition"
def badCls (K : PySem.W.Frag) (C : Addr) : Bool := match K.lookup C with
  | some ⟨.type "type", _, .cls cd, sl⟩ => (match cd.mro, sl.toList with
    | .ref C' :: bm, [_, _, _, _, some (.builtin n), _] => C' == C && (n == "ValueError.__new__" && (!cd.hasDel && (cd.hasDict && PySem.HandSPX.refsVE bm)))
    | _, _ => false)
  | _ => false
theorem badCls_ok {K : PySem.W.Frag} {C : Addr} (h : badCls K C = true) : ∃ nm q N bs bm sn sub ab col dd k0 k1 k2 k3 k5, K.lookup C = some (excClassObj nm q C N bs bm true sn sub ab col dd k0 k1 k2 k3 k5 "ValueError.__new__") ∧ PySem.HandSPX.refsVE bm = true := by
  unfold badCls at h
  split at h
  · rename_i dd cd sl heq
    split at h
    · rename_i C' bm k0 k1 k2 k3 n k5 hm hs
      obtain ⟨h1, h⟩ := He.ba h
      obtain ⟨h2, h⟩ := He.ba h
      obtain ⟨h3, h⟩ := He.ba h
      obtain ⟨h4, h5⟩ := He.ba h
      obtain ⟨nm, bs, mro, N, q, hd, sn, sub, ab, col, hdel⟩ := cd
      have e1 : C' = C := beq_iff_eq.mp h1
      have e2 : n = "ValueError.__new__" := beq_iff_eq.mp h2
      have e3 : hdel = false := by simpa using h3
      have e4 : hd = true := h4
      have e5 : mro = .ref C' :: bm := hm
      have e6 : sl = #[k0, k1, k2, k3, some (.builtin n), k5] := by
        apply Array.toList_inj.mp
        rw [hs]
      subst e1 e2 e3 e4 e5 e6
      exact ⟨nm, q, N, bs, bm, sn, sub, ab, col, dd, k0, k1, k2, k3, k5, heq, h5⟩
    · cases h
  · cases h
def cellB (K : PySem.W.Frag) (cc C : Addr) : Bool := match K.lookup cc with
  | some o => (match o.data with
    | .cell (some (.ref c)) => c == C
    | _ => false)
  | none => false
theorem cellB_ok {K : PySem.W.Frag} {cc C : Addr} (h : cellB K cc C = true) : ∃ o, K.lookup cc = some o ∧ o.data = .cell (some (.ref C)) := by
  unfold cellB at h
  split at h
  · rename_i o ho
    split at h
    · rename_i c hc
      have e : c = C := beq_iff_eq.mp h
      subst e
      exact ⟨o, ho, hc⟩
    · cases h
  · cases h
def fileB (K : PySem.W.Frag) (cdv : Value) : Bool := match cdv with
  | .ref cda => (match K.lookup cda with
    | some oc => (match oc.data with
      | .fields vs => (match (vs[2]? : Option Value) with
        | some (Value.str file _) => PWk.main.file == file
        | _ => false)
      | _ => false)
    | none => false)
  | _ => false
theorem fileB_ok {K : PySem.W.Frag} {cdv : Value} (h : fileB K cdv = true) : ∃ (cda : Addr) (ocode : Obj) (vs : Array Value) (file : Str) (tf : Tok), cdv = .ref cda ∧ K.lookup cda = some ocode ∧ ocode.data = .fields vs ∧ vs[2]? = some (.str file tf) ∧ ((PWk.main.file : Str) == file) = true := by
  unfold fileB at h
  split at h
  · rename_i cda
    split at h
    · rename_i oc ho
      split at h
      · rename_i vs hv
        split at h
        · rename_i file tf hf
          exact ⟨cda, oc, vs, file, tf, rfl, ho, hv, hf, h⟩
        · cases h
      · cases h
    · cases h
  · cases h
abbrev FnB : Type := Option (Str × Str × Arguments × FuncBody × Scope × Addr × List Str × Value × Addr)
def fnB (K : PySem.W.Frag) : FnB := match K.lookup (aInit K) with
  | some ⟨_, _, .func fd, _⟩ => some (fd.name, fd.qualname, fd.params, fd.body, fd.scope, fd.globals, fd.closure.map (·.1), fd.defaults, fd.builtins)
  | _ => none
def fnBv : FnB := some ("__init__", "BadStep.__init__", biA, .stmts biB, biS, mainGlobals, ["__class__"], .none, builtinsNs)
def fnC (K : PySem.W.Frag) : Bool := match K.lookup (aInit K) with
  | some ⟨_, _, .func fd, _⟩ => PySem.W.codeIn K fd.code "BadStep.__init__" && ((fd.closure.all fun p => cellB K p.2 (aBad K)) && fileB K fd.code)
  | _ => false
theorem fnB_ok {K : PySem.W.Frag} (e : fnB K = fnBv) (c : fnC K = true) : ∃ (oc : Value) (od : Option Addr) (kV doc pm : Value) (an : Option Addr) (cdv ct : Value) (osl : Array (Option Value)) (cc : Addr) (ocell : Obj) (cda : Addr) (ocode : Obj) (vs : Array Value) (file : Str) (tf : Tok),
    K.lookup (aInit K) = some ⟨oc, od, .func (PySem.W.ksFn "__init__" "BadStep.__init__" biA biB biS .none kV doc pm an cdv ct cc), osl⟩ ∧ PySem.W.codeIn K cdv "BadStep.__init__" = true ∧
    K.lookup cc = some ocell ∧ ocell.data = .cell (some (.ref (aBad K))) ∧ cdv = .ref cda ∧ K.lookup cda = some ocode ∧ ocode.data = .fields vs ∧ vs[2]? = some (.str file tf) ∧ ((PWk.main.file : Str) == file) = true := by
  unfold fnB at e
  unfold fnC at c
  cases q : K.lookup (aInit K) with
  | none => rw [q] at c; cases c
  | some o =>
    obtain ⟨oc, od, dt, osl⟩ := o
    rw [q] at c e
    cases dt with
    | func fd =>
      obtain ⟨n1, n2, n3, n4, n5, n6, n7, n8, n9, n10, n11, n12, n13, n14, n15⟩ := fd
      have e2 : (some (n1, n2, n3, n4, n5, n6, n7.map (·.1), n8, n15) : FnB) = fnBv := e
      unfold fnBv at e2
      simp only [Option.some.injEq, Prod.mk.injEq] at e2
      obtain ⟨h1, h2, h3, h4, h5, h6, h7, h8, h9⟩ := e2
      have c3 : (PySem.W.codeIn K n13 "BadStep.__init__" && ((n7.all fun p => cellB K p.2 (aBad K)) && fileB K n13)) = true := c
      obtain ⟨k1, k2⟩ := He.ba c3
      obtain ⟨k3, k4⟩ := He.ba k2
      obtain ⟨cda, ocode, vs, file, tf, f1, f2, f3, f4, f5⟩ := fileB_ok k4
      cases n7 with
      | nil => cases h7
      | cons p r =>
        cases r with
        | cons p2 r2 => simp at h7
        | nil =>
          obtain ⟨nm, cc⟩ := p
          have e7 : nm = "__class__" := by simpa using h7
          obtain ⟨ocell, g1, g2⟩ := cellB_ok (show cellB K cc (aBad K) = true by simpa using k3)
          subst h1 h2 h3 h4 h5 h6 h8 h9 e7
          exact ⟨oc, od, n9, n10, n11, n12, n13, n14, osl, cc, ocell, cda, ocode, vs, file, tf, rfl, k1, g1, g2, f1, f2, f3, f4, f5⟩
    | _ => cases c
def decV (a b : Option Value) : Bool := decide (a = b)
def decB (a b : Option Bool) : Bool := decide (a = b)
def badB (K : PySem.W.Frag) : Bool := badCls K (aBad K) && (He.eqO (PySem.W.findIn K (.ref (aBad K)) "__setattr__") (some (some (.builtin "object.__setattr__"))) && (He.eqO (PySem.W.findIn K (.ref (aBad K)) "number") (some none) && (He.eqO (PySem.W.findIn K (.ref (aBad K)) "__init__") (some (some (.ref (aInit K)))) &&
  (decV (PySem.W.typeIn K (.ref (aInit K))) (some (.type "function")) && (PySem.W.keepIn K (.ref (aBad K)) && (decB (PySem.W.subIn K (.ref (aBad K)) (.type "BaseException")) (some true) && (decV (PySem.W.typeIn K (.ref (aBad K))) (some (.type "type")) && (decB (PySem.W.subIn K (.ref (aBad K)) (.type "ValueError")) (some true) &&
  (decB (PySem.W.mroIn K (aBad K) (.ref (aBad K))) (some true) && (He.eqO (PySem.W.ks_superIn K (aBad K) (aBad K) "__init__") (some (some (.builtin "ValueError.__init__"))) && (decB (PySem.W.exmOne K (.ref (aBad K)) (.ref (aBad K))) (some true) && (He.eqO (PySem.W.nsIn K cStatics "thirdparty.any") (some none) && fnC K))))))))))))
abbrev AlB : Type := He.AlD × Bool × FnB
def obsB (K : PySem.W.Frag) : AlB := (He.obsD fa fn K, badB K, fnB K)
def valB : AlB := (He.valD fn, true, fnBv)
def kOf (g : Addr → Option Obj) : PySem.W.Frag := He.frG g (cStatics :: He.asD g 5)
def hkB : PySem.W.Hook where
  α := AlB
  obs := fun s => obsB (kOf s.heap.get?)
  val := fun _ => valB
  says := fun _ h => ∃ K : PySem.W.Frag, K.In h ∧ obsB K = valB
  of := fun _ _ e => ⟨_, He.frG_in, e⟩
  keeps := fun _ _ _ ⟨K, hK, c⟩ k => ⟨K, PySem.W.Frag.In.keeps hK k, c⟩
abbrev R : PySem.W.OpenRow := PySem.W.OpenLaw.row PySem.Challenge.rw_joinedends_k65_whole_no_derivation_of_wh
def ob (s : PySem.W.SharedT) : AlB := obsB (kOf (HandSHeadRun.getT s))
theorem ob_eq (s : PySem.W.SharedT) : ob s = hkB.obs s.abs := by
  have e : HandSHeadRun.getT s = s.abs.heap.get? := funext (HandSHeadRun.getT_eq s)
  unfold ob
  rw [e]
  rfl
theorem run (w : World) : HandSHeadRun.RunEq R (PySem.W.view R.prog [58]) hkB ob 4000 names w := by
  intro os
  kernel_rfl
theorem bad_txt {K : PySem.W.Frag} {h : Heap} {mg : Str → Option Value} (X : K.In h) (G : h.Ns mainGlobals mg) (c : He.SaysD fa fn K) (b : badB K = true) (e : fnB K = fnBv) : BadTxt PWk K mg (aBad K) (aInit K) := by
  obtain ⟨b1, b⟩ := He.ba b
  obtain ⟨b2, b⟩ := He.ba b
  obtain ⟨b3, b⟩ := He.ba b
  obtain ⟨b4, b⟩ := He.ba b
  obtain ⟨b5, b⟩ := He.ba b
  obtain ⟨b6, b⟩ := He.ba b
  obtain ⟨b7, b⟩ := He.ba b
  obtain ⟨b8, b⟩ := He.ba b
  obtain ⟨b9, b⟩ := He.ba b
  obtain ⟨b10, b⟩ := He.ba b
  obtain ⟨b11, b⟩ := He.ba b
  obtain ⟨b12, b⟩ := He.ba b
  obtain ⟨b13, b14⟩ := He.ba b
  exact ⟨He.glo_ok X G (c.fact 50 (f := .glo "BadStep") rfl), badCls_ok b1, He.eqO_ok b2, He.eqO_ok b3, He.eqO_ok b4, of_decide_eq_true b5, b6, of_decide_eq_true b7, of_decide_eq_true b8, of_decide_eq_true b9, of_decide_eq_true b10, He.eqO_ok b11, of_decide_eq_true b12,
    He.free_ok X G (c.fact 62 (f := .free "super") rfl), He.eqO_ok b13, by kernel_rfl, fnB_ok e b14⟩
theorem no_txt {K : PySem.W.Frag} {h : Heap} {mg : Str → Option Value} (X : K.In h) (G : h.Ns mainGlobals mg) (c : He.SaysD fa fn K) : NoP K mg (aNo K) := by
  obtain ⟨e1, e2, e3, e4⟩ := He.exc_ok (c.fact 67 (f := .exc "NoPosition") rfl)
  exact ⟨He.glo_ok X G (c.fact 51 (f := .glo "NoPosition") rfl), e1, e2, e3, e4, He.exm_ok (c.fact 68 (f := .exm "NoPosition" "NoPosition" true) rfl)⟩
theorem top_f {K : PySem.W.Frag} {h : Heap} {mg : Str → Option Value} (X : K.In h) (G : h.Ns mainGlobals mg) (c : He.SaysD fa fn K) : TopF K mg where
  m_is_variable := He.glo_ok X G (c.fact 0 (f := .glo "is_variable") rfl)
  f_is_variable := c.def_ 0 (d := d_is_variable) rfl
  m_size := He.glo_ok X G (c.fact 1 (f := .glo "size") rfl)
  f_size := c.def_ 1 (d := d_size) rfl
  m_depth := He.glo_ok X G (c.fact 2 (f := .glo "depth") rfl)
  f_depth := c.def_ 2 (d := d_depth) rfl
  m_symbols := He.glo_ok X G (c.fact 3 (f := .glo "symbols") rfl)
  f_symbols := c.def_ 3 (d := d_symbols) rfl
  m_variables := He.glo_ok X G (c.fact 4 (f := .glo "variables") rfl)
  f_variables := c.def_ 4 (d := d_variables) rfl
  m_has_argument := He.glo_ok X G (c.fact 5 (f := .glo "has_argument") rfl)
  f_has_argument := c.def_ 5 (d := d_has_argument) rfl
  m_subterm := He.glo_ok X G (c.fact 6 (f := .glo "subterm") rfl)
  f_subterm := c.def_ 6 (d := d_subterm) rfl
  m_replace := He.glo_ok X G (c.fact 7 (f := .glo "replace") rfl)
  f_replace := c.def_ 7 (d := d_replace) rfl
  m_substitute := He.glo_ok X G (c.fact 8 (f := .glo "substitute") rfl)
  f_substitute := c.def_ 8 (d := d_substitute) rfl
  m_is_wide := He.glo_ok X G (c.fact 9 (f := .glo "is_wide") rfl)
  f_is_wide := c.def_ 9 (d := d_is_wide) rfl
  m_named_equation := He.glo_ok X G (c.fact 10 (f := .glo "named_equation") rfl)
  f_named_equation := c.def_ 10 (d := d_named_equation) rfl
  m_binds_exactly := He.glo_ok X G (c.fact 11 (f := .glo "binds_exactly") rfl)
  f_binds_exactly := c.def_ 11 (d := d_binds_exactly) rfl
  m_apply_step := He.glo_ok X G (c.fact 12 (f := .glo "apply_step") rfl)
  f_apply_step := c.def_ 12 (d := d_apply_step) rfl
  m_visited := He.glo_ok X G (c.fact 13 (f := .glo "visited") rfl)
  f_visited := c.def_ 13 (d := d_visited) rfl
  m_leads := He.glo_ok X G (c.fact 14 (f := .glo "leads") rfl)
  f_leads := c.def_ 14 (d := d_leads) rfl
  m_is_derivation := He.glo_ok X G (c.fact 15 (f := .glo "is_derivation") rfl)
  f_is_derivation := c.def_ 15 (d := d_is_derivation) rfl
  m_value := He.glo_ok X G (c.fact 16 (f := .glo "value") rfl)
  f_value := c.def_ 16 (d := d_value) rfl
  m_first_difference := He.glo_ok X G (c.fact 17 (f := .glo "first_difference") rfl)
  f_first_difference := c.def_ 17 (d := d_first_difference) rfl
  m_equation_variables := He.glo_ok X G (c.fact 18 (f := .glo "equation_variables") rfl)
  f_equation_variables := c.def_ 18 (d := d_equation_variables) rfl
  m_counterexample := He.glo_ok X G (c.fact 19 (f := .glo "counterexample") rfl)
  f_counterexample := c.def_ 19 (d := d_counterexample) rfl
  m_holds := He.glo_ok X G (c.fact 20 (f := .glo "holds") rfl)
  f_holds := c.def_ 20 (d := d_holds) rfl
  m_L_mix := He.glo_ok X G (c.fact 21 (f := .glo "_law_mix") rfl)
  f_L_mix := c.def_ 21 (d := d_L_mix) rfl
  m_L_number := He.glo_ok X G (c.fact 22 (f := .glo "_law_number") rfl)
  f_L_number := c.def_ 22 (d := d_L_number) rfl
  m_L_state := He.glo_ok X G (c.fact 23 (f := .glo "_law_state") rfl)
  f_L_state := c.def_ 23 (d := d_L_state) rfl
  m_L_draw := He.glo_ok X G (c.fact 24 (f := .glo "_law_draw") rfl)
  f_L_draw := c.def_ 24 (d := d_L_draw) rfl
  m_L_word := He.glo_ok X G (c.fact 25 (f := .glo "_law_word") rfl)
  f_L_word := c.def_ 25 (d := d_L_word) rfl
  m_L_names := He.glo_ok X G (c.fact 26 (f := .glo "_law_names") rfl)
  f_L_names := c.def_ 26 (d := d_L_names) rfl
  m_L_operations := He.glo_ok X G (c.fact 27 (f := .glo "_law_operations") rfl)
  f_L_operations := c.def_ 27 (d := d_L_operations) rfl
  m_L_leaf := He.glo_ok X G (c.fact 28 (f := .glo "_law_leaf") rfl)
  f_L_leaf := c.def_ 28 (d := d_L_leaf) rfl
  m_L_term := He.glo_ok X G (c.fact 29 (f := .glo "_law_term") rfl)
  f_L_term := c.def_ 29 (d := d_L_term) rfl
  m_L_subterm := He.glo_ok X G (c.fact 30 (f := .glo "_law_subterm") rfl)
  f_L_subterm := c.def_ 30 (d := d_L_subterm) rfl
  m_L_replace := He.glo_ok X G (c.fact 31 (f := .glo "_law_replace") rfl)
  f_L_replace := c.def_ 31 (d := d_L_replace) rfl
  m_L_positions := He.glo_ok X G (c.fact 32 (f := .glo "_law_positions") rfl)
  f_L_positions := c.def_ 32 (d := d_L_positions) rfl
  m_L_substitute := He.glo_ok X G (c.fact 33 (f := .glo "_law_substitute") rfl)
  f_L_substitute := c.def_ 33 (d := d_L_substitute) rfl
  m_L_variables := He.glo_ok X G (c.fact 34 (f := .glo "_law_variables") rfl)
  f_L_variables := c.def_ 34 (d := d_L_variables) rfl
  m_L_pattern := He.glo_ok X G (c.fact 35 (f := .glo "_law_pattern") rfl)
  f_L_pattern := c.def_ 35 (d := d_L_pattern) rfl
  m_L_step := He.glo_ok X G (c.fact 36 (f := .glo "_law_step") rfl)
  f_L_step := c.def_ 36 (d := d_L_step) rfl
  m_L_tuples := He.glo_ok X G (c.fact 37 (f := .glo "_law_tuples") rfl)
  f_L_tuples := c.def_ 37 (d := d_L_tuples) rfl
  m_L_model := He.glo_ok X G (c.fact 38 (f := .glo "_law_model") rfl)
  f_L_model := c.def_ 38 (d := d_L_model) rfl
  m_L_value := He.glo_ok X G (c.fact 39 (f := .glo "_law_value") rfl)
  f_L_value := c.def_ 39 (d := d_L_value) rfl
  m_L_equation_names := He.glo_ok X G (c.fact 40 (f := .glo "_law_equation_names") rfl)
  f_L_equation_names := c.def_ 40 (d := d_L_equation_names) rfl
  m_L_first_difference := He.glo_ok X G (c.fact 41 (f := .glo "_law_first_difference") rfl)
  f_L_first_difference := c.def_ 41 (d := d_L_first_difference) rfl
  m_L_true_step := He.glo_ok X G (c.fact 42 (f := .glo "_law_true_step") rfl)
  f_L_true_step := c.def_ 42 (d := d_L_true_step) rfl
  m_L_line := He.glo_ok X G (c.fact 43 (f := .glo "_law_line") rfl)
  f_L_line := c.def_ 43 (d := d_L_line) rfl
  m_L_by_stage := He.glo_ok X G (c.fact 44 (f := .glo "_law_by_stage") rfl)
  f_L_by_stage := c.def_ 44 (d := d_L_by_stage) rfl
  m_L_spoilt := He.glo_ok X G (c.fact 45 (f := .glo "_law_spoilt") rfl)
  f_L_spoilt := c.def_ 45 (d := d_L_spoilt) rfl
  m_L_refuses := He.glo_ok X G (c.fact 46 (f := .glo "_law_refuses") rfl)
  f_L_refuses := c.def_ 46 (d := d_L_refuses) rfl
  m_L_turned := He.glo_ok X G (c.fact 47 (f := .glo "_law_turned") rfl)
  f_L_turned := c.def_ 47 (d := d_L_turned) rfl
  m_law := He.glo_ok X G (c.fact 48 (f := .glo "law") rfl)
  f_law := c.def_ 48 (d := d_law) rfl
  z_isinstance := He.free_ok X G (c.fact 52 (f := .free "isinstance") rfl)
  z_int := He.free_ok X G (c.fact 53 (f := .free "int") rfl)
  z_len := He.free_ok X G (c.fact 54 (f := .free "len") rfl)
  z_max := He.free_ok X G (c.fact 55 (f := .free "max") rfl)
  z_tuple := He.free_ok X G (c.fact 56 (f := .free "tuple") rfl)
  z_sorted := He.free_ok X G (c.fact 57 (f := .free "sorted") rfl)
  z_set := He.free_ok X G (c.fact 58 (f := .free "set") rfl)
  z_range := He.free_ok X G (c.fact 59 (f := .free "range") rfl)
  z_enumerate := He.free_ok X G (c.fact 60 (f := .free "enumerate") rfl)
  z_list := He.free_ok X G (c.fact 61 (f := .free "list") rfl)
  z_dict := He.free_ok X G (c.fact 64 (f := .free "dict") rfl)
  z_super := He.free_ok X G (c.fact 62 (f := .free "super") rfl)
  z_ValueError := He.free_ok X G (c.fact 63 (f := .free "ValueError") rfl)
  i_WS := He.int_ok X G (c.fact 65 (f := .int "WIDE_SIZE" 4000) rfl)
  i_WD := He.int_ok X G (c.fact 66 (f := .int "WIDE_DEPTH" 120) rfl)
theorem facts {w : World} {K : PySem.W.Frag} {h : Heap} {mg : Str → Option Value} {f : Addr} (X : K.In h) (G : h.Ns mainGlobals mg) (hfa : mg ("law" : Str) = some (.ref f)) (c : obsB K = valB) :
    ∃ fd : FuncData, (∀ (s : Shared) (v : Value), BindsTo s fd ⟨[v], []⟩ [("_law_script", v)]) ∧ ∀ base : Heap, K.In base → base.Ns mainGlobals mg → FnOk PWk w K mg base CX0 158 f fd ["_law_script"] (spLaw K) := by
  have c1 : He.SaysD fa fn K := congrArg (fun z : AlB => z.1) c
  have c2 : badB K = true := congrArg (fun z : AlB => z.2.1) c
  have c3 : fnB K = fnBv := congrArg (fun z : AlB => z.2.2) c
  have T := top_f X G c1
  have B := bad_txt X G c1 c2 c3
  have N := no_txt X G c1
  obtain ⟨fd, F⟩ := T.f_law
  have e := hfa.symm.trans T.m_law
  cases e
  have b := FunD.bindsA (ps := ["_law_script"]) F fun _ _ _ _ _ _ us hl => match us, hl with | [_], _ => rfl
  refine ⟨fd, fun s v => b s [v] rfl, fun base _ _ => ?_⟩
  refine F.ok sc_law (fun vs H Q E h => by unfold spLaw at h; obtain ⟨_, _, rfl, _⟩ := h; rfl) fun cdv A outer s H vs Q E hr h => ?_
  obtain ⟨t, h1, h2⟩ := law_body (P := PWk) (w := w) (base := base) T B N N.te cdv A outer s H vs Q E hr h
  exact ⟨t, h1.nox, h2⟩
end K65
open PySem PySem.W PySem.Calls PyProof.Rows
theorem PySem.Challenge.cw_joinedends_k65_whole_no_derivation_of_wh_holds : PySem.Challenge.rw_joinedends_k65_whole_no_derivation_of_wh.Holds := by
  w_on; o_law
  refine HandSHeadRun.head_any (r := OpenLaw.row PySem.Challenge.rw_joinedends_k65_whole_no_derivation_of_wh) (q := view (OpenLaw.row PySem.Challenge.rw_joinedends_k65_whole_no_derivation_of_wh).prog [58]) (H := K65.hkB) (ob := K65.ob) (M := 4000) (loose := K65.names) (d := HandSHeadRun.topDef (OpenLaw.row PySem.Challenge.rw_joinedends_k65_whole_no_derivation_of_wh).prog 58) (kwd := []) K65.ob_eq
    (by kernel_rfl) (fun s => by kernel_rfl) K65.run (by kernel_rfl) (by kernel_rfl) (by kernel_rfl) (by rfl) (by first | assumption | decide +kernel) (by decide +kernel) ⟨rfl, rfl, rfl, rfl, rfl, by decide +kernel⟩ ?hw ?hc
  case hw => w_witness2
  case hc =>
    refine L2.walk_ofE (l := PySem.Challenge.rw_joinedends_k65_whole_no_derivation_of_wh) (n := 63) (k := 158) (x := "_law_script") (CX := L2.CX0) rfl (by decide) (by kernel_rfl) ⟨rfl, by decide, by decide⟩ ?F (fun _ _ _ _ z => z)
    intro w mg fa h Y G hmg0
    obtain ⟨K, KX, c⟩ := Y
    have hmg : mg ("law" : PySem.Str) = some (.ref fa) := by
      have e : (HandSHeadRun.topDef (OpenLaw.row PySem.Challenge.rw_joinedends_k65_whole_no_derivation_of_wh).prog 58).name = ("law" : PySem.Str) := by kernel_rfl
      rw [← e]
      exact hmg0
    obtain ⟨fd, hb, hF⟩ := K65.facts (w := w) KX G hmg c
    exact ⟨K, fd, K65.spLaw K, KX, hb, fun H a ns hl _ hS => K65.spLaw.i hS (Nat.le_trans hl (by decide)) fun _ => rfl, hF⟩
