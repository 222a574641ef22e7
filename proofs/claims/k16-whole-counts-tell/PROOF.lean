import PyProof.Rows.All
import Wide.All
import OpenK.AllK
import Wide.FinOn
import PySem.Challenge.RW_webnumbers_k16_whole_counts_tell
import HandS.Words
import KE.KExcSuper
import KE.KIsAll
import KE.KTryMore
import HandS.Base
import HandS.Call
import HandS.Exc
import HandS.ExcIs
import HandS.ExcField
import KE.KStateDown
import HandS.More
import HandS.Defaults
import HandS.Head0
import HandS.Head1
import HandS.Head2
import HandS.HeadEnd
import HandS.HeadHook1
import HandS.HeadHook2
import HandS.List
import HandS.Comp
import HandS.Iter
import HandS.GenYield
import HandS.GenCall
import HandS.GenList
import HandS.TupAny
import HandS.SortRule
import HandS.SortInts
import HandS.IsInst
import HandS.Deep
import HandS.Codes
import HandS.WordsExc
import HandS.MakeKwOnly
section
set_option Elab.async false
set_option linter.all false
set_option maxRecDepth 100000
namespace K16
open PySem
/-- the top's statements, by places -/
def top (i : Nat) : Stmt := PySem.Challenge.pw_webnumbers_k16_whole_counts_tell.main.body.getD i (.Pass ⟨0, 0, 0, 0⟩)
def inClass : Stmt → Nat → Stmt
  | .ClassDef _ _ _ body _ _ _ _ _ _ _, i => body.getD i (.Pass ⟨0, 0, 0, 0⟩)
  | _, _ => .Pass ⟨0, 0, 0, 0⟩
end K16
end
section
set_option Elab.async false
set_option linter.all false
set_option maxRecDepth 100000
set_option maxHeartbeats 4000000
/-! TooLarge(limit): an own exception over an own exception over ValueError, whose __init__ says super().__init__('..') and keeps its argument. -/
namespace TLX
open PySem PySem.W PySem.Calls PyProof.Rows PySem.HandSPX
abbrev sIn : Stmt := K16.inClass (K16.top 5) 0
/-- what the written part says of the class at C and of its __init__ at fI -/
structure TLTxt (prog : Program) (K : Frag) (mg : Str → Option Value) (C fI : Addr) : Prop where
  gC : mg "TooLarge" = some (.ref C)
  cls : ∃ nm q N bs bm sn sub ab col dd k0 k1 k2 k3 k5, K.lookup C = some (excClassObj nm q C N bs bm true sn sub ab col dd k0 k1 k2 k3 k5 "ValueError.__new__") ∧ refsVE bm = true
  sa : findIn K (.ref C) "__setattr__" = some (some (.builtin "object.__setattr__"))
  noN : findIn K (.ref C) "limit" = some none
  iC : findIn K (.ref C) "__init__" = some (some (.ref fI))
  tC : typeIn K (.ref fI) = some (.type "function")
  kC : keepIn K (.ref C) = true
  exC : subIn K (.ref C) (.type "BaseException") = some true
  veC : subIn K (.ref C) (.type "ValueError") = some true
  ccC : mroIn K C (.ref C) = some true
  tyC : typeIn K (.ref C) = some (.type "type")
  hdC : hasDictIn K C = true
  st : nsIn K cStatics "thirdparty.any" = some none
  su : mg "super" = none
  up : ks_superIn K C C "__init__" = some (some (.builtin "ValueError.__init__"))
  fn : ∃ (oc : Value) (od : Option Addr) (doc pm : Value) (an : Option Addr) (cda cc : Addr) (ct : Value) (osl : Array (Option Value)),
    K.lookup fI = some ⟨oc, od, .func (ksFn "__init__" "TooLarge.__init__" (L2.defArgs sIn) (L2.defBody sIn) (L2.defScope sIn) .none .none doc pm an (.ref cda) ct cc), osl⟩ ∧
    codeIn K (.ref cda) "TooLarge.__init__" = true ∧
    (∃ ccl cdd vs ccs file tf, K.lookup cda = some ⟨ccl, cdd, .fields vs, ccs⟩ ∧ vs[2]? = some (.str file tf) ∧ ((prog.main.file : Str) == file) = true) ∧
    (∃ cl cld csl, K.lookup cc = some ⟨cl, cld, .cell (some (.ref C)), csl⟩)
  top : (prog.main.scope.names.lookup ("super" : Str)).isSome = false

section
variable {prog : Program} {w : World} {A : Around} {E : Value → Shared → Prop} {h : Heap} {g : Array GenState} {d : Drawn} {t : Nat} {os : OsState}
variable {nm q : Str} {C N : Addr} {bs bm : List Value} {hdct : Bool} {sn : List Str} {sub : List Value} {ab : Bool} {col : Option Bool} {dd : Option Addr} {k0 k1 k2 k3 k5 : Option Value}
/-- the built-in __init__, bound to the exception at e, called: the args are laid anew -/
theorem call_mw {u e t0 : Addr} {rest : List Value} {Q : Value → Shared → Prop}
    (hC : h.get? C = some (excClassObj nm q C N bs bm hdct sn sub ab col dd k0 k1 k2 k3 k5 "ValueError.__new__")) (he : h.get? e = some (excO C t0)) (hu : h.get? u = some (kxs_mw "ValueError.__init__" e)) (hz : rest.length ≤ sizeLine)
    (hq : ∀ h' t1, (∀ b o, b ≠ e → h.get? b = some o → h'.get? b = some o) → h'.get? e = some (excO C t1) → Q .none ⟨h', g, d, t, os⟩) :
    wpAny (model prog w) A (call (.ref u) rest) Q E ⟨h, g, d, t, os⟩ := by
  refine wpAny_call (codeAny_of_tree ?_)
  show wpAny _ A.in1 (callAny (.ref u) ⟨rest, []⟩) _ _ _
  simp only [callAny]
  refine wpAny_bind (wpAny_load hu ?_)
  have hty : (Value.type "method-wrapper" == Value.type "method" || Value.type "method-wrapper" == Value.type "builtin_function_or_method" || Value.type "method-wrapper" == Value.type "method-wrapper") = true := by decide
  simp only [kxs_mw, hty, if_true]
  refine KFB.if_so (by decide) ?_
  refine wpAny_bind (check_bound_init PySem.F.excBase_ValueError.toExcCallFacts hC he rfl ?_)
  refine wpAny_bind (wpAny_pure (wpAny_pure ?_))
  refine ⟨plainId_quiet PySem.F.excBase_ValueError.init.plain _, codeAny_builtin PySem.F.excBase_ValueError.initEntry ?_⟩
  exact exc_init_tree (cls := .ref C) (t0 := t0) (dv := none) (c2 := .none) (c3 := .none) (b4 := .bool false) he hz fun h' k e' _ => hq h' h.objs.size k e'
end

/-- what __init__ leaves of a fresh exception at x -/
structure InitEnd (h h' : Heap) (x C dx : Addr) (v : Value) : Prop where
  keep : ∀ b o, b ≠ x → h.get? b = some o → h'.get? b = some o
  obj : ∃ t1 : Addr, h'.get? x = some { cls := .ref C, dict := some dx, data := .fields #[.ref t1, .none, .none, .none, .bool false, .none] }
  dbig : h.objs.size ≤ dx
  dne : dx ≠ x
  ns : h'.Ns1 dx (fun y => if y = "limit" then some v else none)
/-- a made one -/
structure Made (h h' : Heap) (e C d : Addr) (v : Value) : Prop where
  keep : ∀ b o, h.get? b = some o → h'.get? b = some o
  new : h.objs.size ≤ e
  obj : ∃ oe vs, h'.get? e = some oe ∧ oe.cls = .ref C ∧ oe.dict = some d ∧ oe.data = .fields vs ∧ vs[1]? = some .none
  dbig : h.objs.size ≤ d
  dne : d ≠ e
  ns : h'.Ns1 d (fun y => if y = "limit" then some v else none)
theorem one_size (v : Value) : [v].length ≤ sizeLine := by
  rw [sizeLine_eq]
  exact (by decide : 1 ≤ 16777216)
theorem ldC {M : Model} {s : Shared} {env : Env} {m : Str → Option Value} {x : Str} {pos : Pos} {v : Value} {Q : Value → Shared → Prop} {A : Around} {E : Value → Shared → Prop} (hn : s.heap.Ns env.locals m) (hv : m x = some v) (h : Q v s)
    (hk : env.scope.kind = .function := by rfl) (hl : env.kindOf x = some .local := by rfl) (hd : (x == ("__debug__" : Str)) = false := by decide) :
    wpAny M A (eval (.Name x pos) env) Q E s := wpAny_Name (wpAny_loadName_local hk hl hn hv h) hd
section
variable {prog : Program} {w : World} {A : Around} {E : Value → Shared → Prop} {R : Result → Shared → Prop} {s : Shared} {K : Frag} {mg : Str → Option Value} {C fI : Addr}
theorem tl_init (T : TLTxt prog K mg C fI) {x t0 : Addr} {v : Value} (X : K.In s.heap) (hG : s.heap.Ns mainGlobals mg) (hB : ∃ mb, s.heap.Ns builtinsNs mb ∧ mb "super" = some (.type "super")) (hlim : s.heap.NoLimit)
    (hx : s.heap.get? x = some (excO C t0)) (hnx : K.lookup x = none) (hroom : A.depth < recursionLimit)
    (hq : ∀ h' tk dx, InitEnd s.heap h' x C dx v → R (.ok (.ret .none)) { s with heap := h', toks := tk }) :
    codeAny (model prog w) A (.call (.ref fI) ⟨[.ref x, v], []⟩) R s := by
  obtain ⟨oc, od, doc, pm, an, cda, cc, ct, osl, ho, hcd, ⟨ccl, cdd, vs, ccs, file, tf, hcode, hvs, hfile⟩, ⟨cl, cld, csl, hcell⟩⟩ := T.fn
  obtain ⟨nm, q, N, bs, bm, sn, sub, ab, col, dd, k0, k1, k2, k3, k5, hC, hbm⟩ := T.cls
  obtain ⟨mb, hbn, hbs⟩ := hB
  have hcl : clsIn K C = some { name := nm, bases := bs, mro := .ref C :: bm, ns := N, qualname := q, hasDict := true, slotNames := sn, subclasses := sub, abstract := ab, collection := col, hasDel := false } := by unfold clsIn; rw [hC] <;> rfl
  refine ks_codeAny_call_defAt (binds := [("self", .ref x), ("limit", v)]) hroom (X _ _ ho) rfl hlim (codeRec_of X hcd) rfl (BindsTo.of_eq (by first | rfl | with_unfolding_all rfl)) (fun y hy => (by decide +kernel : ∀ y ∈ (L2.defScope sIn).names, y.2 ≠ .cell) y hy) (fun y hy => ?_) (fun h1 hn k => ?_) rfl rfl rfl
  · rcases List.mem_cons.mp hy with rfl | hy
    · rfl
    · rcases List.mem_cons.mp hy with rfl | hy
      · rfl
      · cases hy
  have X1 : K.In h1 := X.keeps k
  have hn' : h1.Ns s.heap.objs.size (fun y => [(("self" : Str), Value.ref x), ("limit", v)].reverse.lookup y) := hn
  have hx1 := k _ _ hx
  have hsize : s.heap.objs.size < h1.objs.size := hn.lt
  have hxL : s.heap.objs.size ≠ x := Nat.ne_of_gt (Heap.lt_size hx)
  have b1 : [(("self" : Str), Value.ref x), ("limit", v)].reverse.lookup ("self" : Str) = some (.ref x) := by first | rfl | with_unfolding_all rfl | kernel_rfl
  have b2 : [(("self" : Str), Value.ref x), ("limit", v)].reverse.lookup ("limit" : Str) = some v := by first | rfl | with_unfolding_all rfl | kernel_rfl
  show PySem.wpAt _ _ (.func _ (ksEnv "TooLarge.__init__" (L2.defScope sIn) s.heap.objs.size fI (.ref cda) cc)) (execs (L2.defBody sIn) (ksEnv "TooLarge.__init__" (L2.defScope sIn) s.heap.objs.size fI (.ref cda) cc)) _ _ _
  refine ks_wpAt_execs_cons (ks_wpAt_Expr_any (ks_wpAt_MethodCall ?_))
  refine ks_wpAt_super_base (env := ksEnv "TooLarge.__init__" (L2.defScope sIn) s.heap.objs.size fI (.ref cda) cc) rfl rfl (by decide) rfl (X1 _ _ ho) rfl rfl rfl (X1 _ _ hcode) rfl hvs hfile T.top ?_
  refine ks_loadName_global rfl rfl (loadGlobal_builtin (env := ksEnv "TooLarge.__init__" (L2.defScope sIn) s.heap.objs.size fI (.ref cda) cc) (hG.keeps k) T.su (hbn.keeps k) hbs ⟨rfl, ?_⟩)
  refine wpAny_loadName_free rfl rfl rfl ⟨_, X1 _ _ hcell, rfl⟩ ?_
  refine wpAny_loadName_local rfl rfl hn' b1 ?_
  obtain ⟨oD, hD1, cdD, hD2⟩ : ∃ oD, h1.get? C = some oD ∧ ∃ cdD, oD.data = .cls cdD := ⟨_, X1 _ _ hC, _, rfl⟩
  refine ks_wpAny_isType_cls hD1 hD2 ⟨rfl, ?_⟩
  refine ks_wpAny_call_super hD1 hD2 hx1 rfl (fun c e => by cases e) (looks_mroIn X1 T.ccC) (fun h2 e2 k2 => ?_)
  have X2 : K.In h2 := X1.keeps k2
  have hx2 := k2 _ _ hx1
  have IA : ∀ (hh : Heap), hh.get? x = some (excO C t0) → InstAt hh x (excO C t0) C none := fun hh e => ⟨e, rfl, rfl, trivial⟩
  have ups : alongIn K "__init__" (((Value.ref C :: bm).dropWhile (· != .ref C)).drop 1) = some (some (.builtin "ValueError.__init__")) := by
    have z := T.up
    unfold ks_superIn at z
    rw [hcl] at z
    exact z
  refine kxs_getMethod kxs_ValueError e2 (looks_opaque X2 T.st) (l₀ := .ref C :: bm) (fun A Q E s kk qq => wpAny_bind ((looks_clsIn X2 hcl) A _ E s kk (wpAny_pure qq))) rfl X2 ups ((IA _ hx2).type.andThen (looks_subIn X2 T.veC)) (ks_ne X2 (IA _ hx2) hcl) (by decide) ?_
  have ku : ∀ b o, h2.get? b = some o → (h2.push (kxs_mw "ValueError.__init__" x)).get? b = some o := fun b o e => Heap.get?_push_of_some _ e
  refine kxs_callWith (i := "ValueError.__init__") (x := x) rfl ?_
  refine evalArgs_plain (spliced_cons (Calls.Constant_str (k := 0) (pos := ⟨16, 25, 16, 36⟩) (spliced_nil ⟨Heap.get?_push_at rfl rfl, ?_⟩)))
  refine call_mw (rest := [_]) (X2.keeps ku _ _ hC) (ku _ _ hx2) (Heap.get?_push_at rfl rfl) (one_size _) fun h3 t1 k3 hx3 => ?_
  have kall : ∀ b o, b ≠ x → h1.get? b = some o → h3.get? b = some o := fun b o hb e => k3 b o hb (ku b o (k2 b o e))
  have X3 : K.In h3 := fun a o e => kall a o (fun z => by rw [z, hnx] at e; cases e) (X1 a o e)
  have hn3 : h3.Ns s.heap.objs.size (fun y => [(("self" : Str), Value.ref x), ("limit", v)].reverse.lookup y) := by
    obtain ⟨oL, es, ep, e, r⟩ := hn'
    exact ⟨oL, es, ep, kall _ _ hxL e, r⟩
  refine ks_wpAt_execs_cons (wpAt_of_wpAny ?_)
  refine plainObj_wpAny_Assign_Attribute ?_
  refine ldC (v := v) hn3 b2 (ldC (v := .ref x) hn3 b1 ?_)
  refine set_plain X3 (ox := excO C t1) (od := none) ⟨hx3, rfl, rfl, trivial⟩ T.sa ?_
  refine exc_osa X3 hx3 hcl (show refsVE (.ref C :: bm) = true from hbm) rfl T.noN (fun h4 tk4 dx k4 dn dne hx4 hn4 => ?_)
  have z3 : s.heap.objs.size ≤ h3.objs.size := by
    obtain ⟨oL, es, ep, e, r⟩ := hn3
    exact Nat.le_of_lt (Heap.lt_size e)
  show PySem.wpAt _ _ _ (execs [] _) _ _ _
  exact wpAt_of_wpAny (wpAny_execs_nil (hq h4 tk4 dx ⟨fun b o hb e => k4 b o hb (kall b o hb (k b o e)), ⟨t1, hx4⟩, Nat.le_trans z3 dn, dne, hn4⟩))
theorem tl_made (T : TLTxt prog K mg C fI) {v : Value} (X : K.In s.heap) (hG : s.heap.Ns mainGlobals mg) (hB : ∃ mb, s.heap.Ns builtinsNs mb ∧ mb "super" = some (.type "super")) (hlim : s.heap.NoLimit) (hroom : A.depth + 1 < recursionLimit)
    (hq : ∀ h' tk e d, Made s.heap h' e C d v → R (.ok (.ret (.ref e))) { s with heap := h', toks := tk }) :
    codeAny (model prog w) A (.call (.ref C) ⟨[v], []⟩) R s := by
  obtain ⟨nm, q, N, bs, bm, sn, sub, ab, col, dd, k0, k1, k2, k3, k5, hC, hbm⟩ := T.cls
  obtain ⟨hp, g, dr, tk, os⟩ := s
  have k : ∀ b o, hp.get? b = some o → ((hp.push (kdv_tup [v])).push (excO C hp.objs.size)).get? b = some o := fun b o e => Heap.get?_push_of_some _ (Heap.get?_push_of_some _ e)
  have hget : ((hp.push (kdv_tup [v])).push (excO C hp.objs.size)).get? (hp.objs.size + 1) = some (excO C hp.objs.size) := by heap_get
  have hnx : K.lookup (hp.objs.size + 1) = none := by
    cases e : K.lookup (hp.objs.size + 1) with
    | none => rfl
    | some o =>
      have z : hp.get? (hp.objs.size + 1) = some o := X _ _ e
      exact absurd (Nat.lt_of_succ_lt (Heap.lt_size z)) (Nat.lt_irrefl _)
  refine call_own PySem.F.excBase_ValueError (fun X => refsVE_contains X bm hbm) (X _ _ hC) (looks_findIn X T.iC) (fun self => bind_fn X self T.tC) (one_size v) ?_
  refine tl_init (s := ⟨(hp.push (kdv_tup [v])).push (excO C hp.objs.size), g, dr, tk, os⟩) T (X.keeps k) (hG.keeps k) (let ⟨mb, e1, e2⟩ := hB; ⟨mb, e1.keeps k, e2⟩) (hlim.keeps k) hget hnx ?_ fun h' tk' dx ⟨k', hx, dn, dne, hns⟩ => ?_
  · show A.depth + 1 < recursionLimit
    exact hroom
  · have old : ∀ b o, hp.get? b = some o → h'.get? b = some o := fun b o e => k' b o (Nat.ne_of_lt (Nat.lt_succ_of_lt (Heap.lt_size e))) (k b o e)
    have z : hp.objs.size + 1 + 1 ≤ dx := by
      have q := dn
      rw [Heap.size_push, Heap.size_push] at q
      exact q
    obtain ⟨t1, hx⟩ := hx
    exact ⟨rfl, hq h' tk' (hp.objs.size + 1) dx ⟨old, Nat.le_succ _, ⟨_, _, hx, rfl, rfl, rfl, rfl⟩, Nat.le_trans (Nat.le_trans (Nat.le_succ _) (Nat.le_succ _)) z, dne, hns⟩⟩
end
end TLX
end
section
set_option Elab.async false
set_option linter.all false
set_option maxRecDepth 100000
set_option maxHeartbeats 4000000
/-! raise TooLarge(e); isinstance of the caught one, its field. -/
namespace TLX
open PySem PySem.Spec PyProof.Rows L2
theorem relO_lim {v : V} {v' : Value} (r : RelV v v') (f : Str) : RelO (List.lookup f [(("limit" : Str), v)]) (if f = "limit" then some v' else none) := by
  by_cases hw : f = "limit"
  · subst hw
    rw [if_pos rfl]
    have q : List.lookup ("limit" : Str) [(("limit" : Str), v)] = some v := by simp [List.lookup]
    rw [q]
    exact r
  · rw [if_neg hw]
    have qw : (f == ("limit" : Str)) = false := by simpa using hw
    have q2 : List.lookup f [(("limit" : Str), v)] = none := by simp [List.lookup, qw]
    rw [q2]
    trivial
section
variable {X : Cx} {C fI : Addr}
/-- TooLarge(e) -/
def tMkTL (C : Addr) (ta : TA) : L2.St → Hp → XK → Prop := fun σ H Q => ta σ H fun vs H1 => ∃ v, vs = [v] ∧ ∀ d, H1 d = none → Q (.ref C) (some d) (upd H1 d (.xd [(("limit" : Str), v)]))
theorem pmk_tl {a : Expr} {ta : TA} {p pos : Pos} {k : Nat} (T : TLTxt X.prog X.K X.mg C fI) (hr : Room k X.A) (ha : PA X [a] ta) (hg : Gl X "TooLarge" := by rfl)
    (he : starEach (a :: []) X.env = (false, eval a X.env) :: starEach [] X.env := by rfl) (hpl : (backTo pos (starEach [] X.env)).any (·.1) = false := by rfl) :
    PMk X (.Call (.Name "TooLarge" p) [a] [] pos) (tMkTL C ta) := by
  intro pins s σ H Q I h
  refine wpAny_Call_Name_kw (ld_glob I hg T.gC ?_)
  refine PySem.W.callWith_K (h₀ := X.base) I.ok.mod.kin T.kC (thn (ha.run pos pins s σ H _ I h) fun us s1 hh => ?_) he hpl
  obtain ⟨vs, H1, I1, r1, v, ev, q1⟩ := hh
  subst ev
  refine ⟨I1.kIn, ?_⟩
  cases r1 with
  | cons rv rn =>
    rename_i v' us'
    cases rn
    show wpAny _ _ (call (.ref C) [v']) _ _ _
    have hlim := I1.nolimit
    have hG := I1.ok.mod.glob.keeps I1.bk
    have hB : ∃ mb, s1.heap.Ns builtinsNs mb ∧ mb "super" = some (.type "super") := by
      obtain ⟨mb, e1, e2⟩ := I1.ok.mod.blt
      exact ⟨mb, e1.keeps I1.bk, (e2 _ (by decide)).trans (by decide +kernel)⟩
    obtain ⟨hp, g, dr, tk, os⟩ := s1
    refine wpAny_call (tl_made T I1.kIn hG hB hlim (by have := hr.dp; omega) fun h' tk' e d M => ?_)
    show MkP X pins σ Q (.ref e) ⟨h', g, dr, tk', os⟩
    obtain ⟨oe, fv, hoe, hc, hd, hdat, h1⟩ := M.obj
    have hns := M.ns
    obtain ⟨G', g1, g2⟩ := restrict h' fun b => decide (b ≠ e)
    have gk : ∀ b, b ≠ e → G'.get? b = h'.get? b := fun b hb => g1 b (decide_eq_true hb)
    have ge : G'.get? e = none := g2 e (by simp)
    have old : ∀ b o, hp.get? b = some o → G'.get? b = some o := fun b o q => (gk b (Nat.ne_of_lt (Nat.lt_of_lt_of_le (Heap.lt_size q) M.new))).trans (M.keep b o q)
    have ob : ObjOk X.prog X.w (upd H1 d (.xd [(("limit" : Str), v)])) G' d (.xd [(("limit" : Str), v)]) :=
      ⟨_, hns.at (fun o q => (gk d M.dne).trans q), fun f => relO_lim rv f⟩
    have J : Inv X pins σ (upd H1 d (.xd [(("limit" : Str), v)])) ⟨G', g, dr, tk', os⟩ := I1.laid (t' := tk') old M.dbig ob
    refine ⟨e, oe, fv, ⟨G', g, dr, tk', os⟩, _, .ref C, some d, rfl, J, fun b o q => ?_, ge, hoe, ⟨hc, hd⟩, hdat, h1, ?_, rfl, I1.bare, raises_own T.exC T.tyC, q1 d (I1.hok.fresh M.dbig)⟩
    · by_cases hb : b = e
      · have q' : G'.get? b = some o := q
        rw [hb, ge] at q'; cases q'
      · exact (gk b hb).symm.trans q
    · rw [upd_ne (Ne.symm M.dne)]
      exact I1.hok.fresh M.new
/-- raise TooLarge(e) -/
def tRaiseTL (C : Addr) (W : WX) (ta : TA) : TS := fun _ σ H => tMkTL C ta σ H fun cls d H' => W cls d σ H'
theorem ps_raiseTL {a : Expr} {ta : TA} {W : WX} {p pos pos2 : Pos} {k : Nat} (hc : X.calm = true) (T : TLTxt X.prog X.K X.mg C fI) (hr : Room k X.A) (tk : Takes X W) (ha : PA X [a] ta) (hg : Gl X "TooLarge" := by rfl)
    (he : starEach (a :: []) X.env = (false, eval a X.env) :: starEach [] X.env := by rfl) (hpl : (backTo pos (starEach [] X.env)).any (·.1) = false := by rfl) :
    PS X (.Raise (some (.Call (.Name "TooLarge" p) [a] [] pos)) none pos2) (tRaiseTL C W ta) := ps_raise hc tk (pmk_tl T hr ha hg he hpl)
end

/-! ### isinstance of a caught error that has a dict -/
section
open PySem.W PySem.Calls
variable {prog : Program} {w : World} {A : Around} {E : Value → Shared → Prop} {s : Shared} {K : Frag} {x D : Addr} {ox : Obj} {od : Option Obj}
theorem findObj_dat {name : Str} {a g : Value} (hc : (clsIn K D).isSome = true) (ha : findIn K (.ref D) name = some (some a)) (hg : specialIn K a "__get__" = some (some g)) (ht : takesIn K a = some true) : findObj K D od name = some (.bind g a) := by
  obtain ⟨cd, hc⟩ := Option.isSome_iff_exists.mp hc
  unfold findObj
  rw [hc, Option.bind_some, ha, Option.bind_some]
  simp [hg, ht]
theorem class_of_exc {Q : Option Value → Shared → Prop} (T : ExcC K D) (X : K.In s.heap) (I : InstAt s.heap x ox D od) (h : Q (some (.ref D)) { s with toks := s.toks + 1 }) : wpAny (model prog w) A (getAttr? (.ref x) "__class__") Q E s := by
  have hf : findObj K D od "__class__" = some (.bind (.builtin "getset_descriptor.__get__") (.builtin "object.__class__")) := findObj_dat (by obtain ⟨cd, hc, _⟩ := any_some T.hd; rw [hc]; rfl) T.ha T.hn T.ht
  obtain ⟨hp, g, d, t, os⟩ := s
  have L0 := I.type (M := model prog w)
  have L1 := looks_findIn (M := model prog w) X T.hg
  have L2 := looks_findIn (M := model prog w) X T.hk
  have L3 := looks_find (M := model prog w) X I hf
  have sub : Looks (model prog w) hp (isInstance (.ref x) (.type "BaseException")) true := L0.andThen (looks_subIn X T.hs)
  have hx2 : (Value.builtin "BaseException.__getattribute__" == Value.builtin "object.__getattribute__") = false := by decide +kernel
  have hx1 : (onTheHeap (Value.ref D) && Value.builtin "BaseException.__getattribute__" == Value.builtin "object.__getattribute__") = false := by rw [hx2]; rfl
  unfold getAttr? getAttrBy? getAttrBy
  refine wpAny_bind (wpAny_mkText (wpAny_bind (wpAny_attempt (wpAny_holding (wpAny_bind (L0.at (wpAny_bind (L1.at ?_))))))))
  show wpAny _ _ (if (onTheHeap (Value.ref D) && Value.builtin "BaseException.__getattribute__" == Value.builtin "object.__getattribute__") = true then _ else _) _ _ _
  rw [hx1, if_neg Bool.false_ne_true]
  unfold getAttrByItsOwn hookBefore
  refine wpAny_bind ?_
  rw [if_pos (show onTheHeap (Value.ref D) = true from rfl)]
  refine L2.at ?_
  refine wpAny_bind (wpAny_attempt (wpAny_holding ?_))
  unfold callGetattribute
  have hx0 : (false && onTheHeap (Value.builtin "BaseException.__getattribute__")) = false := rfl
  rw [hx0, if_neg Bool.false_ne_true]
  unfold boundAndCalled
  rw [PySem.F.excAttr_ValueError.ga.bind (.ref x)]
  refine wpAny_bind (wpAny_pure ?_)
  show wpAny _ _ (call (.builtin "BaseException.__getattribute__") [.ref x, .str "__class__" t]) _ _ _
  refine wpAny_call (codeAny_call_builtin PySem.F.excAttr_ValueError.ga.plain PySem.F.entry_bexc_ga ?_)
  refine @check_slot (model prog w) _ _ ⟨hp, g, d, t + 1, os⟩ "BaseException.__getattribute__" "BaseException" "__getattribute__" (.ref x) [.str "__class__" t] [] _ (by decide +kernel) (by decide +kernel) sub (PySem.F.args_bexc_ga (.ref x) (.str "__class__" t)) ?_
  unfold Builtin.«object.__getattribute__»
  refine wpAny_bind (wpAny_of_eq (a := ((Value.ref x : Value), [Value.str "__class__" t])) (by first | rfl | (simp only [slotArgs]; rfl)) ?_)
  refine wpAny_bind (wpAny_pure (wpAny_bind (L0.at (wpAny_bind (L3.at ?_)))))
  show wpAny _ _ (holding [Value.builtin "object.__class__"] (call (.builtin "getset_descriptor.__get__") [.builtin "object.__class__", .ref x, .ref D]) >>= ret) _ _ _
  refine wpAny_bind (wpAny_holding (wpAny_call (class_get (s := ⟨hp, g, d, t + 1, os⟩) (ox := ox) (od := od) X I T.hm ?_)))
  refine wpAny_pure ?_
  show wpAny _ _ (handedOut (.ref D)) _ _ _
  rw [handedOut_of (v := .ref D) rfl]
  first
    | exact wpAny_pure (wpAny_pure h)
    | exact wpAny_pure h
    | exact wpAny_pure (wpAny_bind (wpAny_pure (wpAny_pure h)))
theorem kit_exc (T : ExcC K D) : KitX K (.ref x) (.ref D) (fun h => ∃ ox od, InstAt h x ox D od) where
  ty := fun _ _ _ ⟨_, _, I⟩ => I.type
  it := fun _ _ X _ => by
    obtain ⟨cdD, hcD, _⟩ := any_some T.hd
    unfold clsIn at hcD
    split at hcD
    · rename_i c' d' cd' sl' ho
      intro A' Q' E' s' k q
      unfold isType loadHead
      exact wpAny_bind (wpAny_loadPart (k _ _ (X _ _ ho)) (wpAny_pure q))
    · cases hcD
  ne := fun h tp dd its n sl X htp => by
    obtain ⟨cdD, hcD, _⟩ := any_some T.hd
    refine Bool.eq_false_iff.mpr fun q => ?_
    have e : D = tp := Value.ref.inj (beq_iff_eq.mp q)
    subst e
    unfold clsIn at hcD
    split at hcD
    · rename_i c' d' cd' sl' ho
      have z := (X _ _ ho).symm.trans htp
      cases z
    · cases hcD
  ca := fun X ⟨_, _, I⟩ k => class_of_exc T X I k
end
/-- isinstance(e, c), e the exception that the suite holds, of the class at D, its dict a fields' dict -/
def rIsX (K : PySem.W.Frag) (D a : Addr) (cls : Value) (d : Option Addr) : List V → Hp → VK → Prop := fun xs H Q => ∃ (c : V) (cv : Value) (b : Bool) (dd : Addr) (fs : List (Str × V)), xs = [.ref a, c] ∧ (∀ u, RelV c u → u = cv) ∧ cls = .ref D ∧ d = some dd ∧ H dd = some (.xd fs) ∧ PySem.W.kitOne K (.ref D) cv = some b ∧ Q (.bl b) H
theorem call_isX {X : Cx} {a D : Addr} {oe : Obj} {cls : Value} {d : Option Addr} {pn : List (Addr × Obj)} (C : ExcC X.K D) (hz : Zc cls d oe) (hf : ∃ vs, oe.data = .fields vs) : CallR (X.suite a ((a, oe) :: pn)) (.builtin "isinstance") (rIsX X.K D a cls d) := by
  intro pins s σ H xs us Q I r h
  obtain ⟨c, cv, b, dd, fs, rfl, hcv, rfl, rfl, hdd, e, q⟩ := h
  cases r with
  | cons rx rr =>
    cases rr with
    | cons rt rr =>
      cases rr
      cases rx
      have ec := hcv _ rt
      subst ec
      obtain ⟨hget, _⟩ := I.pin (a, oe) (List.mem_append.mpr (.inl List.mem_cons_self))
      obtain ⟨vs, hv⟩ := hf
      have hx : ObjOk X.prog X.w H s.heap dd (.xd fs) := I.hok dd _ hdd
      obtain ⟨mA, hns, hr⟩ := hx
      obtain ⟨od, _, _, ho, _⟩ := id hns
      have J : PySem.W.InstAt s.heap a oe D (some od) := ⟨hget, hz.1, by unfold PySem.W.notCls; rw [hv] <;> rfl, by rw [hz.2]; exact ho⟩
      exact PySem.W.kia_one (kit_exc C) I.kIn ⟨_, _, J⟩ e (fun z => nomatch z) fun tk => ⟨.bl b, H, I.kept (t' := tk) fun _ _ z => z, rfl, q⟩
end TLX
end
section
set_option Elab.async false
set_option linter.all false
set_option maxRecDepth 100000
set_option maxHeartbeats 0
/-! HX: a Hook with the defs' facts, the error class's own __init__, one more Bool. -/
namespace HX
open PySem PySem.Spec PyProof.Rows L2 He
/-! ### the class TooLarge, by a Bool -/
def clsB (K : PySem.W.Frag) (C : Addr) : Bool := match K.lookup C with
  | some ⟨.type "type", _, .cls cd, sl⟩ => (match cd.mro, sl.toList with
    | .ref C' :: bm, [_, _, _, _, some (.builtin n), _] => C' == C && (n == "ValueError.__new__" && (!cd.hasDel && (cd.hasDict && PySem.HandSPX.refsVE bm)))
    | _, _ => false)
  | _ => false
theorem clsB_ok {K : PySem.W.Frag} {C : Addr} (h : clsB K C = true) : ∃ nm q N bs bm sn sub ab col dd k0 k1 k2 k3 k5, K.lookup C = some (excClassObj nm q C N bs bm true sn sub ab col dd k0 k1 k2 k3 k5 "ValueError.__new__") ∧ PySem.HandSPX.refsVE bm = true := by
  unfold clsB at h
  split at h
  · rename_i dd cd sl ho
    split at h
    · rename_i C' bm k0 k1 k2 k3 n k5 hm hs
      simp only [Bool.and_eq_true, beq_iff_eq, Bool.not_eq_true'] at h
      obtain ⟨rfl, rfl, hdel, hdct, ht⟩ := h
      obtain ⟨nm, bs, mro, ns, qn, hd, sn, sub, ab, col, del⟩ := cd
      dsimp only at hm hdel hdct
      subst hm hdel hdct
      have hsl : sl = #[k0, k1, k2, k3, some (.builtin "ValueError.__new__"), k5] := by
        obtain ⟨l⟩ := sl
        simp only at hs
        rw [hs]
      subst hsl
      exact ⟨nm, qn, ns, bs, bm, sn, sub, ab, col, dd, k0, k1, k2, k3, k5, ho, ht⟩
    · cases h
  · cases h
/-- its __init__: a closure over the cell __class__ -/
def fnB (file : Str) (K : PySem.W.Frag) (C fI : Addr) : Bool := match K.lookup fI with
  | some ⟨_, _, .func fd, _⟩ => (match fd.closure with
      | [(n, cc)] => decide (n = "__class__") && (match K.lookup cc with
        | some ⟨_, _, .cell (some (.ref c)), _⟩ => decide (c = C)
        | _ => false)
      | _ => false) && (decide (fd.defaults = .none) && (decide (fd.kwdefaults = .none) && (match fd.code with
      | .ref cda => PySem.W.codeIn K (.ref cda) "TooLarge.__init__" && (match K.lookup cda with
        | some ⟨_, _, .fields vs, _⟩ => (match (vs[2]? : Option Value) with
          | some (Value.str f _) => (file == f)
          | _ => false)
        | _ => false)
      | _ => false)))
  | _ => false
abbrev FnX : Type := Option (Str × Str × Arguments × FuncBody × Scope × Addr × Addr)
def fnX (K : PySem.W.Frag) : FnX := match K.lookup (ma K (ga K "TooLarge") "__init__") with
  | some ⟨_, _, .func fd, _⟩ => some (fd.name, fd.qualname, fd.params, fd.body, fd.scope, fd.globals, fd.builtins)
  | _ => none
def fnXv : FnX := some ("__init__", "TooLarge.__init__", defArgs TLX.sIn, .stmts (defBody TLX.sIn), defScope TLX.sIn, mainGlobals, builtinsNs)
theorem fnB_ok {file : Str} {K : PySem.W.Frag} {C : Addr} (h : fnB file K C (ma K (ga K "TooLarge") "__init__") = true) (e : fnX K = fnXv) :
    ∃ (oc : Value) (od : Option Addr) (doc pm : Value) (an : Option Addr) (cda cc : Addr) (ct : Value) (osl : Array (Option Value)),
      K.lookup (ma K (ga K "TooLarge") "__init__") = some ⟨oc, od, .func (PySem.W.ksFn "__init__" "TooLarge.__init__" (defArgs TLX.sIn) (defBody TLX.sIn) (defScope TLX.sIn) .none .none doc pm an (.ref cda) ct cc), osl⟩ ∧
      PySem.W.codeIn K (.ref cda) "TooLarge.__init__" = true ∧
      (∃ ccl cdd vs ccs f tf, K.lookup cda = some ⟨ccl, cdd, .fields vs, ccs⟩ ∧ vs[2]? = some (.str f tf) ∧ (file == f) = true) ∧
      (∃ cl cld csl, K.lookup cc = some ⟨cl, cld, .cell (some (.ref C)), csl⟩) := by
  unfold fnX at e
  unfold fnB at h
  cases q : K.lookup (ma K (ga K "TooLarge") "__init__") with
  | none => rw [q] at h; cases h
  | some o =>
    obtain ⟨oc, od, dt, osl⟩ := o
    rw [q] at h e
    cases dt with
    | func fd =>
      obtain ⟨n1, n2, n3, n4, n5, n6, n7, n8, n9, n10, n11, n12, n13, n14, n15⟩ := fd
      have e2 : (some (n1, n2, n3, n4, n5, n6, n15) : FnX) = fnXv := e
      unfold fnXv at e2
      simp only [Option.some.injEq, Prod.mk.injEq] at e2
      obtain ⟨h1, h2, h3, h4, h5, h6, h7⟩ := e2
      subst h1 h2 h3 h4 h5 h6 h7
      simp only at h
      obtain ⟨k1, k2⟩ := ba h
      obtain ⟨k3, k4⟩ := ba k2
      obtain ⟨k5, k6⟩ := ba k4
      have e8 : n8 = .none := of_decide_eq_true k3
      have e9 : n9 = .none := of_decide_eq_true k5
      subst e8 e9
      split at k1
      · rename_i n cc
        obtain ⟨m1, m2⟩ := ba k1
        have en : n = "__class__" := of_decide_eq_true m1
        subst en
        split at m2
        · rename_i cl cld c csl ho
          have ec : c = C := of_decide_eq_true m2
          subst ec
          split at k6
          · rename_i cda
            obtain ⟨p1, p2⟩ := ba k6
            split at p2
            · rename_i ccl cdd vs ccs hcd
              split at p2
              · rename_i f tf hv
                exact ⟨oc, od, n10, n11, n12, cda, cc, n14, osl, rfl, p1, ⟨ccl, cdd, vs, ccs, f, tf, hcd, hv, p2⟩, ⟨cl, cld, csl, ho⟩⟩
              · cases p2
            · cases p2
          · cases k6
        · cases m2
      · cases k1
    | _ => cases h
def tlB (file : Str) (K : PySem.W.Frag) : List Bool :=
  let C := ga K "TooLarge"
  let I := ma K C "__init__"
  [clsB K C, eqO (PySem.W.findIn K (.ref C) "__setattr__") (some (some (.builtin "object.__setattr__"))), eqO (PySem.W.findIn K (.ref C) "limit") (some none), eqO (PySem.W.findIn K (.ref C) "__init__") (some (some (.ref I))),
    decide (PySem.W.typeIn K (.ref I) = some (.type "function")), PySem.W.keepIn K (.ref C), decide (PySem.W.subIn K (.ref C) (.type "BaseException") = some true), decide (PySem.W.subIn K (.ref C) (.type "ValueError") = some true),
    decide (PySem.W.mroIn K C (.ref C) = some true), decide (PySem.W.typeIn K (.ref C) = some (.type "type")), PySem.W.hasDictIn K C, eqO (PySem.W.nsIn K cStatics "thirdparty.any") (some none),
    eqO (PySem.W.ks_superIn K C C "__init__") (some (some (.builtin "ValueError.__init__"))), fnB file K C I,
    eqO (PySem.W.findIn K (.ref C) "__getattribute__") (some (some (.builtin "BaseException.__getattribute__"))), eqO (PySem.W.findIn K (.ref C) "__getattr__") (some none), eqO (PySem.W.findIn K (.ref C) "__class__") (some (some (.builtin "object.__class__"))),
    eqO (PySem.W.specialIn K (.builtin "object.__class__") "__get__") (some (some (.builtin "getset_descriptor.__get__"))), decide (PySem.W.takesIn K (.builtin "object.__class__") = some true), decide (PySem.W.mroIn K C (.type "object") = some true),
    decide (PySem.W.exmOne K (.ref C) (.ref (ga K "WebError")) = some true), decide (PySem.W.kitOne K (.ref C) (.ref C) = some true), decide (PySem.W.kitOne K (.ref C) (.ref (ga K "UnfitWeb")) = some false), decide (PySem.W.kitOne K (.ref C) (.ref (ga K "NoResult")) = some false)] ++
  ["bool", "int", "str", "tuple", "list"].flatMap fun T => ["NoneType", "bool", "int", "str", "list", "tuple"].map fun t => decide (PySem.W.kitOne K (.type t) (.type T) = some (t == T || (t == "bool" && T == "int")))
/-! ### the Hook -/
abbrev AlX : Type := AlD × (List Bool × FnX)
def obsK (file : Str) (fa : List Fa) (fn : List DefD) (K : PySem.W.Frag) : AlX := (obsD fa fn K, (tlB file K, fnX K))
def valK (fn : List DefD) : AlX := (valD fn, (List.replicate 54 true, fnXv))
def seeds (g : Addr → Option Obj) (n : Nat) : List Addr := cStatics :: asD g n
structure Says (file : Str) (fa : List Fa) (fn : List DefD) (K : PySem.W.Frag) : Prop where
  d : SaysD fa fn K
  b : tlB file K = List.replicate 54 true
  f : fnX K = fnXv
/-- the part without lists -/
def isLs (o : Obj) : Bool := match o.cls with
  | .type t => t == "list"
  | _ => false
def noL (g : Addr → Option Obj) : Addr → Option Obj := fun a => match g a with
  | some o => if isLs o then none else some o
  | none => none
theorem noL_ok {g : Addr → Option Obj} {a : Addr} {o : Obj} (h : noL g a = some o) : g a = some o ∧ isLs o = false := by
  unfold noL at h
  split at h
  · rename_i o' e
    cases z : isLs o' with
    | true => rw [z, if_pos rfl] at h; cases h
    | false => rw [z, if_neg Bool.false_ne_true] at h; cases h; exact ⟨e, z⟩
  · cases h
theorem isLs_list {o : Obj} (h : o.cls = .type "list") : isLs o = true := by
  unfold isLs; rw [h]; rfl
def obsG (file : Str) (n : Nat) (fa : List Fa) (fn : List DefD) (g : Addr → Option Obj) : AlX := obsK file fa fn (frG (noL g) (seeds g n))
def hook (file : Str) (n : Nat) (fa : List Fa) (fn : List DefD) : PySem.W.Hook where
  α := AlX
  obs := fun s => obsG file n fa fn s.heap.get?
  val := fun _ => valK fn
  says := fun _ h => ∃ K : PySem.W.Frag, K.In h ∧ Says file fa fn K ∧ ∀ (a : Addr) (o : Obj), K.lookup a = some o → isLs o = false
  of := fun _ _ e => ⟨_, (fun a o z => (noL_ok (frG_at _ z)).1), ⟨congrArg (fun z : AlX => z.1) e, congrArg (fun z : AlX => z.2.1) e, congrArg (fun z : AlX => z.2.2) e⟩, fun a o z => (noL_ok (frG_at _ z)).2⟩
  keeps := fun _ _ _ ⟨K, hK, c, nl⟩ k => ⟨K, PySem.W.Frag.In.keeps hK k, c, nl⟩
theorem obs_eq {file : Str} {n : Nat} {fa : List Fa} {fn : List DefD} {g : Addr → Option Obj} {s : Shared} (h : ∀ a, g a = s.heap.get? a) : obsG file n fa fn g = (hook file n fa fn).obs s := by
  have e : g = s.heap.get? := funext h
  rw [e] <;> rfl
end HX
end
section
set_option Elab.async false
set_option linter.all false
set_option maxRecDepth 100000
set_option maxHeartbeats 0
/-! HR: the head's run. Printed by genhead.py. -/
namespace HX
open PySem PySem.Spec PyProof.Rows L2 He
def dd (i : Nat) (x : Str) (k : List (Str × Dv)) : DefD := ⟨(x, none), x, x, defArgs (K16.top i), defBody (K16.top i), defScope (K16.top i), [], k⟩
def fn1 : List DefD := [dd 8 "neighbour_rows" [], dd 9 "first_loop" [], dd 11 "bit_of" [], dd 12 "code_of" [], dd 13 "web_of_code" [], dd 16 "all_renamings" [], dd 17 "code_under" [], dd 21 "check_limit" [], dd 22 "code_with" [], dd 23 "is_least" [], dd 24 "all_webs" [("loops", .bl false)], dd 25 "catalogue" [("loops", .bl false)], dd 28 "count_maps" [], dd 29 "fits" [], dd 30 "homs" [], dd 31 "count_homs" [], dd 34 "may_follow" [], dd 35 "completed" [], dd 36 "find_renaming" [], dd 40 "hom_profile" [("loops", .bl false)], dd 41 "telling_web" [], dd 43 "_law_cell" [], dd 44 "_law_draws" []]
def fn2 : List DefD := [dd 45 "_law_same" [], dd 46 "_law_web" [], dd 47 "_law_matrix" [], dd 48 "_law_shuffle" [], dd 49 "_law_renamed" [], dd 50 "_law_permutations" [], dd 51 "_law_code" [], dd 52 "_law_is_least" [], dd 53 "_law_catalogue" [], dd 54 "_law_count" [], dd 55 "_law_alike" [], dd 56 "_law_due" [], dd 57 "_law_has_loop" [], dd 58 "_law_listed" [], dd 59 "_law_telling" [], dd 60 "_law_profile" [], dd 61 "_law_counts" [], dd 62 "_law_few_told" [], dd 63 "_law_telling_refused" [], dd 64 "_law_profile_refused" [], dd 65 "_law_widest" [], dd 66 "_law_moved" [], dd 67 "_law_other" [], dd 68 "law" []]
def fn : List DefD := fn1 ++ fn2
def fa1 : List Fa := [.glo "neighbour_rows", .glo "first_loop", .glo "bit_of", .glo "code_of", .glo "web_of_code", .glo "all_renamings", .glo "code_under", .glo "check_limit", .glo "code_with", .glo "is_least", .glo "all_webs", .glo "catalogue", .glo "count_maps", .glo "fits", .glo "homs", .glo "count_homs", .glo "may_follow", .glo "completed", .glo "find_renaming", .glo "hom_profile", .glo "telling_web", .glo "_law_cell", .glo "_law_draws", .glo "_law_same", .glo "_law_web", .glo "_law_matrix", .glo "_law_shuffle", .glo "_law_renamed", .glo "_law_permutations", .glo "_law_code"]
def fa2 : List Fa := [.glo "_law_is_least", .glo "_law_catalogue", .glo "_law_count", .glo "_law_alike", .glo "_law_due", .glo "_law_has_loop", .glo "_law_listed", .glo "_law_telling", .glo "_law_profile", .glo "_law_counts", .glo "_law_few_told", .glo "_law_telling_refused", .glo "_law_profile_refused", .glo "_law_widest", .glo "_law_moved", .glo "_law_other", .glo "law", .glo "TooLarge", .glo "WebError", .glo "UnfitWeb", .glo "NoResult"]
def fa3 : List Fa := [.free "len", .free "range", .free "sorted", .free "list", .free "tuple", .free "min", .free "max", .free "abs", .free "int", .free "isinstance", .free "enumerate", .free "bool", .free "str", .free "super", .int "MAX_NODES" 64, .int "MAX_LISTED" 6, .int "MAX_SIMPLE" 4, .int "MAX_LOOPED" 3, .int "MAX_MAPS" 4096, .int "MAX_RENAMED" 9, .int "MAX_TOLD" 4, .int "MAX_TOLD_WITH_LOOPS" 3]
def fa : List Fa := fa1 ++ (fa2 ++ fa3)
def loose0 : List PySem.Str := ["WebError", "UnfitWeb", "NoResult", "InvalidCode", "TooLarge", "MAX_NODES", "neighbour_rows", "first_loop", "bit_of", "code_of", "web_of_code", "MAX_LISTED", "all_renamings", "code_under"]
def loose1 : List PySem.Str := ["MAX_SIMPLE", "MAX_LOOPED", "check_limit", "code_with", "is_least", "all_webs", "catalogue", "MAX_MAPS", "count_maps", "fits", "homs", "count_homs", "MAX_RENAMED", "may_follow"]
def loose2 : List PySem.Str := ["completed", "find_renaming", "MAX_TOLD", "MAX_TOLD_WITH_LOOPS", "hom_profile", "telling_web", "_law_cell", "_law_draws", "_law_same", "_law_web", "_law_matrix", "_law_shuffle", "_law_renamed", "_law_permutations"]
def loose3 : List PySem.Str := ["_law_code", "_law_is_least", "_law_catalogue", "_law_count", "_law_alike", "_law_due", "_law_has_loop", "_law_listed", "_law_telling", "_law_profile", "_law_counts", "_law_few_told", "_law_telling_refused", "_law_profile_refused"]
def loose4 : List PySem.Str := ["_law_widest", "_law_moved", "_law_other"]
abbrev loose : List PySem.Str := loose0 ++ loose1 ++ loose2 ++ loose3 ++ loose4
abbrev R : PySem.W.OpenRow := PySem.W.OpenLaw.row PySem.Challenge.rw_webnumbers_k16_whole_counts_tell
abbrev file : Str := R.prog.main.file
abbrev hk : PySem.W.Hook := hook file 6 fa fn
def ob (s : PySem.W.SharedT) : AlX := obsG file 6 fa fn (HandSHeadRun.getT s)
theorem ob_eq (s : PySem.W.SharedT) : ob s = hk.obs s.abs := obs_eq (HandSHeadRun.getT_eq s)
theorem run (w : World) : HandSHeadRun.RunEq R (PySem.W.view R.prog [68]) hk ob 6000 loose w := by
  intro os
  kernel_rfl
end HX
end
section
set_option Elab.async false
set_option linter.all false
set_option maxRecDepth 100000
set_option maxHeartbeats 2000000
/-! DL: readings over plain data. A pure part G of the heap bears the data; a slot holds data, or a list of its own that is changed. -/
namespace DL
open PySem L2

mutual
inductive Dat (G : Hp) : V → PyData → Prop
  | non : Dat G .non .none
  | bl (b : Bool) : Dat G (.bl b) (.bool b)
  | int (i : Int) : Dat G (.int i) (.int i)
  | str (x : Str) : Dat G (.str x) (.str x)
  | lst {a : Addr} {xs : List V} {ds : List PyData} : G a = some (.lst xs) → Dats G xs ds → Dat G (.ref a) (.list ds)
  | tup {a : Addr} {xs : List V} {ds : List PyData} : G a = some (.tup xs) → Dats G xs ds → Dat G (.ref a) (.tuple ds)
  | frz {a : Addr} {o : Obj} (ns : List Int) : G a = some (.frz o (.lst (ns.map V.int))) → Dat G (.ref a) (.dict (ns.map fun i => (.int i, .none)))
inductive Dats (G : Hp) : List V → List PyData → Prop
  | nil : Dats G [] []
  | cons {v : V} {vs : List V} {d : PyData} {ds : List PyData} : Dat G v d → Dats G vs ds → Dats G (v :: vs) (d :: ds)
end

section
variable {G H : Hp}
mutual
theorem Dat.same (e : Same G H) : ∀ {v : V} {d : PyData}, Dat G v d → Dat H v d
  | _, _, .non => .non
  | _, _, .bl b => .bl b
  | _, _, .int i => .int i
  | _, _, .str x => .str x
  | _, _, .lst h r => .lst (e _ _ h) (Dats.same e r)
  | _, _, .tup h r => .tup (e _ _ h) (Dats.same e r)
  | _, _, .frz ns h => .frz ns (e _ _ h)
theorem Dats.same (e : Same G H) : ∀ {vs : List V} {ds : List PyData}, Dats G vs ds → Dats H vs ds
  | _, _, .nil => .nil
  | _, _, .cons h r => .cons (Dat.same e h) (Dats.same e r)
end
end
theorem Dats.len {G : Hp} : ∀ {vs : List V} {ds : List PyData}, Dats G vs ds → vs.length = ds.length
  | _, _, .nil => rfl
  | _, _, .cons _ r => congrArg Nat.succ r.len
theorem Dats.app {G : Hp} : ∀ {vs us : List V} {ds es : List PyData}, Dats G vs ds → Dats G us es → Dats G (vs ++ us) (ds ++ es)
  | _, _, _, _, .nil, s => s
  | _, _, _, _, .cons h r, s => .cons h (r.app s)
theorem Dats.one {G : Hp} {v : V} {d : PyData} (h : Dat G v d) : Dats G [v] [d] := .cons h .nil
theorem Dats.get {G : Hp} : ∀ {vs : List V} {ds : List PyData} {i : Nat} {d : PyData}, Dats G vs ds → ds[i]? = some d → ∃ v, vs[i]? = some v ∧ Dat G v d
  | _, _, _, _, .nil, e => by simp at e
  | _, _, 0, _, .cons h _, e => by
    simp only [List.getElem?_cons_zero, Option.some.injEq] at e
    subst e
    exact ⟨_, rfl, h⟩
  | _, _, i + 1, _, .cons _ r, e => by
    obtain ⟨v, q, z⟩ := r.get (i := i) (by simpa using e)
    exact ⟨v, by simpa using q, z⟩
theorem Dats.getV {G : Hp} : ∀ {vs : List V} {ds : List PyData} {i : Nat} {v : V}, Dats G vs ds → vs[i]? = some v → ∃ d, ds[i]? = some d ∧ Dat G v d
  | _, _, _, _, .nil, e => by simp at e
  | _, _, 0, _, .cons h _, e => by
    simp only [List.getElem?_cons_zero, Option.some.injEq] at e
    subst e
    exact ⟨_, rfl, h⟩
  | _, _, i + 1, _, .cons _ r, e => by
    obtain ⟨d, q, z⟩ := r.getV (i := i) (by simpa using e)
    exact ⟨d, by simpa using q, z⟩
theorem Dats.take {G : Hp} : ∀ {vs : List V} {ds : List PyData} (n : Nat), Dats G vs ds → Dats G (vs.take n) (ds.take n)
  | _, _, 0, _ => .nil
  | _, _, _ + 1, .nil => .nil
  | _, _, n + 1, .cons h r => .cons h (r.take n)
theorem Dats.drop {G : Hp} : ∀ {vs : List V} {ds : List PyData} (n : Nat), Dats G vs ds → Dats G (vs.drop n) (ds.drop n)
  | _, _, 0, h => h
  | _, _, _ + 1, .nil => .nil
  | _, _, n + 1, .cons _ r => r.drop n
theorem Dats.set {G : Hp} : ∀ {vs : List V} {ds : List PyData} (n : Nat) {v : V} {d : PyData}, Dats G vs ds → Dat G v d → Dats G (vs.set n v) (ds.set n d)
  | _, _, _, _, _, .nil, _ => .nil
  | _, _, 0, _, _, .cons _ r, q => .cons q r
  | _, _, n + 1, _, _, .cons h r, q => .cons h (r.set n q)
theorem Dats.dropLast {G : Hp} {vs : List V} {ds : List PyData} (h : Dats G vs ds) : Dats G vs.dropLast ds.dropLast := by
  rw [List.dropLast_eq_take, List.dropLast_eq_take, h.len]
  exact h.take _
/-- the values themselves: ints, bools -/
theorem Dat.eqInt {G : Hp} {v : V} {i : Int} (h : Dat G v (.int i)) : v = .int i := by cases h; rfl
theorem Dat.eqBool {G : Hp} {v : V} {b : Bool} (h : Dat G v (.bool b)) : v = .bl b := by cases h; rfl
theorem Dat.eqNone {G : Hp} {v : V} (h : Dat G v .none) : v = .non := by cases h; rfl
theorem Dat.eqStr {G : Hp} {v : V} {x : Str} (h : Dat G v (.str x)) : v = .str x := by cases h; rfl
theorem Dat.inLst {G : Hp} {v : V} {ds : List PyData} (h : Dat G v (.list ds)) : ∃ a xs, v = .ref a ∧ G a = some (.lst xs) ∧ Dats G xs ds := by cases h with | lst e r => exact ⟨_, _, rfl, e, r⟩
theorem Dat.inTup {G : Hp} {v : V} {ds : List PyData} (h : Dat G v (.tuple ds)) : ∃ a xs, v = .ref a ∧ G a = some (.tup xs) ∧ Dats G xs ds := by cases h with | tup e r => exact ⟨_, _, rfl, e, r⟩
/-- a list of ints that is read alone -/
theorem Dat.inFrz {G : Hp} {v : V} {kvs : List (PyData × PyData)} (h : Dat G v (.dict kvs)) : ∃ (a : Addr) (o : Obj) (ns : List Int), v = .ref a ∧ kvs = (ns.map fun i : Int => (PyData.int i, PyData.none)) ∧ G a = some (.frz o (.lst (ns.map V.int))) := by cases h with | frz ns e => exact ⟨_, _, ns, rfl, rfl, e⟩
mutual
theorem Dat.dp {K : PySem.W.Frag} {G : Hp} : ∀ {v : V} {d : PyData}, Dat G v d → d.canLay0 = true → Dp K G v d
  | _, _, .non, _ => .non
  | _, _, .bl b, _ => .bl b
  | _, _, .int i, _ => .int i
  | _, _, .str x, _ => .str x
  | _, _, .lst h r, z => .lst (SqL.of h) (Dats.dp r z)
  | _, _, .tup h r, z => .tup (SqT.of h) (Dats.dp r z)
  | _, _, .frz _ _, z => nomatch z
theorem Dats.dp {K : PySem.W.Frag} {G : Hp} : ∀ {vs : List V} {ds : List PyData}, Dats G vs ds → PyData.canLayAll0 ds = true → DpAll K G vs ds
  | _, _, .nil, _ => .nil
  | _, _, .cons h r, z => .cons (Dat.dp h (Bool.and_eq_true_iff.mp z).1) (Dats.dp r (Bool.and_eq_true_iff.mp z).2)
end
/-- it is None exactly if the data is None -/
theorem Dat.isNone {G : Hp} {v : V} {d : PyData} (h : Dat G v d) : (decide (v = .non)) = (match d with | .none => true | _ => false) := by cases h <;> simp

/-! ### the pure part, grown -/
def ext (G H H' : Hp) : Hp := fun b => match G b with
  | some o => some o
  | none => match H b with
    | none => H' b
    | some _ => none
section
variable {G G1 H H' H'' : Hp}
theorem ext_l : Same G (ext G H H') := fun b o e => by unfold ext; rw [e]
theorem ext_r (e1 : Same G H) (e2 : Same H H') : Same (ext G H H') H' := fun b o e => by
  unfold ext at e
  cases q : G b with
  | some u =>
    rw [q] at e
    have e' : u = o := Option.some.inj e
    subst e'
    exact e2 _ _ (e1 _ _ q)
  | none =>
    rw [q] at e
    cases z : H b with
    | none =>
      rw [z] at e
      exact e
    | some u =>
      rw [z] at e
      cases e
theorem ext_new {b : Addr} {o : HO} (h : H b = none) (hg : G b = none) (h' : H' b = some o) : ext G H H' b = some o := by unfold ext; rw [hg, h]; exact h'
theorem ext_old {b : Addr} {o : HO} (h : H b = some o) (hg : G b = none) : ext G H H' b = none := by unfold ext; rw [hg, h]
theorem ext_ext (e1 : Same H H') (e2 : Same H' H'') : ext (ext G H H') H' H'' = ext G H H'' := by
  funext b
  unfold ext
  cases q : G b with
  | some u => rfl
  | none =>
    cases z : H b with
    | none =>
      cases y : H' b with
      | none => simp [y]
      | some u => simp [y, e2 _ _ y]
    | some u => simp [e1 _ _ z]
theorem ext_mono (g : Same G G1) (gh : Same G1 H') : Same (ext G H' H'') (ext G1 H' H'') := fun b o e => by
  unfold ext at e ⊢
  cases q : G b with
  | some u =>
    rw [q] at e
    rw [g _ _ q]
    exact e
  | none =>
    rw [q] at e
    cases z : H' b with
    | some u =>
      rw [z] at e
      cases e
    | none =>
      rw [z] at e
      cases y : G1 b with
      | none => exact e
      | some u =>
        have := gh _ _ y
        rw [z] at this
        cases this
theorem same_free (e : Same H H') {b : Addr} (h : H' b = none) : H b = none := e.free h
theorem same_new {p : Addr} {o : HO} (h : H p = none) : Same H (upd H p o) := fun b u e => by
  rw [upd_ne (ne_of_none e h)]
  exact e
theorem same_mut {p : Addr} {o : HO} (e : Same H H') (h : H p = none) : Same H (upd H' p o) := fun b u q => by
  rw [upd_ne (ne_of_none q h)]
  exact e _ _ q
end

/-! ### slots -/
inductive Sl where
  | any
  | pu (d : PyData)
  | ow (ds : List PyData)
def SlOk (B G H : Hp) (o : Option V) : Sl → Prop
  | .any => True
  | .pu d => ∃ v, o = some v ∧ Dat G v d
  | .ow ds => ∃ a xs, o = some (.ref a) ∧ H a = some (.lst xs) ∧ G a = none ∧ B a = none ∧ Dats G xs ds
structure ER (B G H : Hp) (σ : L2.St) (δ : List Sl) : Prop where
  len : σ.length = δ.length
  at_ : ∀ (i : Nat) (o : Option V) (s : Sl), σ[i]? = some o → δ[i]? = some s → SlOk B G H o s
  ne : ∀ (i j : Nat) (a : Addr) (ds es : List PyData), i ≠ j → δ[i]? = some (.ow ds) → δ[j]? = some (.ow es) → σ[i]? = some (some (.ref a)) → σ[j]? ≠ some (some (.ref a))
section
variable {B G H H' : Hp} {σ : L2.St} {δ : List Sl}
theorem ER.slot (E : ER B G H σ δ) {i : Nat} {s : Sl} (h : δ[i]? = some s) : ∃ o, σ[i]? = some o ∧ SlOk B G H o s := by
  have hi : i < δ.length := (List.getElem?_eq_some_iff.mp h).1
  have hs : i < σ.length := by rw [E.len]; exact hi
  exact ⟨σ[i], List.getElem?_eq_getElem hs, E.at_ i _ s (List.getElem?_eq_getElem hs) h⟩
theorem ER.pure (E : ER B G H σ δ) {i : Nat} {d : PyData} (h : δ[i]? = some (.pu d)) : ∃ v, σ[i]? = some (some v) ∧ Dat G v d := by
  obtain ⟨o, e, v, q, r⟩ := E.slot h
  exact ⟨v, by rw [e, q], r⟩
theorem ER.own (E : ER B G H σ δ) {i : Nat} {ds : List PyData} (h : δ[i]? = some (.ow ds)) : ∃ a xs, σ[i]? = some (some (.ref a)) ∧ H a = some (.lst xs) ∧ G a = none ∧ B a = none ∧ Dats G xs ds := by
  obtain ⟨o, e, a, xs, q, r⟩ := E.slot h
  exact ⟨a, xs, by rw [e, q], r⟩
theorem ER.step (E : ER B G H σ δ) (e : Same H H') : ER B (ext G H H') H' σ δ := by
  refine ⟨E.len, fun i o s h1 h2 => ?_, E.ne⟩
  have z := E.at_ i o s h1 h2
  cases s with
  | any => trivial
  | pu d =>
    obtain ⟨v, q, r⟩ := z
    exact ⟨v, q, r.same ext_l⟩
  | ow ds =>
    obtain ⟨a, xs, q, h, g, b, r⟩ := z
    exact ⟨a, xs, q, e _ _ h, ext_old h g, b, r.same ext_l⟩
theorem set_get {α : Type} {l : List α} {i j : Nat} {x y : α} (h : (l.set i x)[j]? = some y) : (i = j ∧ i < l.length ∧ x = y) ∨ (i ≠ j ∧ l[j]? = some y) := by
  by_cases e : i = j
  · subst e
    have hi : i < l.length := by
      have := (List.getElem?_eq_some_iff.mp h).1
      simpa using this
    rw [List.getElem?_set_self hi] at h
    exact .inl ⟨rfl, hi, Option.some.inj h⟩
  · rw [List.getElem?_set_ne e] at h
    exact .inr ⟨e, h⟩
/-- a slot is stored: data -/
theorem ER.set (E : ER B G H σ δ) {i : Nat} {v : V} {d : PyData} (r : Dat G v d) : ER B G H (σ.set i (some v)) (δ.set i (.pu d)) := by
  refine ⟨by rw [List.length_set, List.length_set]; exact E.len, fun j o s h1 h2 => ?_, fun j k a ds es hjk h1 h2 h3 h4 => ?_⟩
  · rcases set_get h1 with ⟨rfl, hi, e⟩ | ⟨hne, h1⟩
    · rcases set_get h2 with ⟨_, _, e2⟩ | ⟨hne, _⟩
      · subst e2
        exact ⟨v, e.symm, r⟩
      · exact absurd rfl hne
    · rcases set_get h2 with ⟨e, _, _⟩ | ⟨_, h2⟩
      · exact absurd e hne
      · exact E.at_ j o s h1 h2
  · rcases set_get h1 with ⟨_, _, e⟩ | ⟨n1, h1⟩
    · cases e
    · rcases set_get h2 with ⟨_, _, e⟩ | ⟨n2, h2⟩
      · cases e
      · rw [List.getElem?_set_ne n1] at h3
        rw [List.getElem?_set_ne n2] at h4
        exact E.ne j k a ds es hjk h1 h2 h3 h4
/-- a slot is stored: a list of its own -/
theorem ER.setOw (E : ER B G H σ δ) {i : Nat} {a : Addr} {xs : List V} {ds : List PyData} (h : H a = some (.lst xs)) (g : G a = none) (b : B a = none) (r : Dats G xs ds)
    (new : ∀ j es, i ≠ j → δ[j]? = some (.ow es) → σ[j]? ≠ some (some (.ref a))) : ER B G H (σ.set i (some (.ref a))) (δ.set i (.ow ds)) := by
  refine ⟨by rw [List.length_set, List.length_set]; exact E.len, fun j o s h1 h2 => ?_, fun j k a' ds' es hjk h1 h2 h3 h4 => ?_⟩
  · rcases set_get h1 with ⟨rfl, hi, e⟩ | ⟨hne, h1⟩
    · rcases set_get h2 with ⟨_, _, e2⟩ | ⟨hne, _⟩
      · subst e2
        exact ⟨a, xs, e.symm, h, g, b, r⟩
      · exact absurd rfl hne
    · rcases set_get h2 with ⟨e, _, _⟩ | ⟨_, h2⟩
      · exact absurd e hne
      · exact E.at_ j o s h1 h2
  · rcases set_get h1 with ⟨rfl, hi, e⟩ | ⟨n1, h1⟩
    · rcases set_get h2 with ⟨e2, _, _⟩ | ⟨n2, h2⟩
      · exact hjk e2
      · rw [List.getElem?_set_self (by rw [E.len]; exact hi)] at h3
        rw [List.getElem?_set_ne n2] at h4
        have e3 : a = a' := V.ref.inj (Option.some.inj (Option.some.inj h3))
        subst e3
        exact new k es n2 h2 h4
    · rw [List.getElem?_set_ne n1] at h3
      rcases set_get h2 with ⟨rfl, hi, e⟩ | ⟨n2, h2⟩
      · rw [List.getElem?_set_self (by rw [E.len]; exact hi)] at h4
        have e3 : a = a' := V.ref.inj (Option.some.inj (Option.some.inj h4))
        subst e3
        exact new j ds' n1 h1 h3
      · rw [List.getElem?_set_ne n2] at h4
        exact E.ne j k a' ds' es hjk h1 h2 h3 h4
/-- the list in slot i is changed -/
theorem ER.mut (E : ER B G H σ δ) {i : Nat} {a : Addr} {xs ys : List V} {ds es : List PyData} (hi : δ[i]? = some (.ow ds)) (hs : σ[i]? = some (some (.ref a))) (g : G a = none) (b : B a = none) (r : Dats G ys es) :
    ER B G (upd H a (.lst ys)) σ (δ.set i (.ow es)) := by
  refine ⟨by rw [List.length_set]; exact E.len, fun j o s h1 h2 => ?_, fun j k a' ds' es' hjk h1 h2 h3 h4 => ?_⟩
  · rcases set_get h2 with ⟨rfl, _, e2⟩ | ⟨hne, h2⟩
    · subst e2
      rw [hs] at h1
      exact ⟨a, ys, (Option.some.inj h1).symm, upd_same, g, b, r⟩
    · have z := E.at_ j o s h1 h2
      cases s with
      | any => trivial
      | pu d => exact z
      | ow fs =>
        obtain ⟨a', xs', q, hh, g', b', r'⟩ := z
        have hne2 : a' ≠ a := fun e => by
          subst e
          rw [q] at h1
          exact E.ne i j a' _ _ hne hi h2 hs h1
        exact ⟨a', xs', q, by rw [upd_ne hne2]; exact hh, g', b', r'⟩
  · rcases set_get h1 with ⟨rfl, _, e⟩ | ⟨n1, h1⟩
    · rcases set_get h2 with ⟨e2, _, _⟩ | ⟨n2, h2⟩
      · exact hjk e2
      · exact E.ne i k a' _ _ hjk hi h2 h3 h4
    · rcases set_get h2 with ⟨rfl, _, e⟩ | ⟨n2, h2⟩
      · exact E.ne j i a' _ _ hjk h1 hi h3 h4
      · exact E.ne j k a' _ _ hjk h1 h2 h3 h4
/-- the list in slot i is changed no more: it becomes data -/
theorem ER.freeze (E : ER B G H σ δ) {i : Nat} {a : Addr} {xs : List V} {ds : List PyData} (hi : δ[i]? = some (.ow ds)) (hs : σ[i]? = some (some (.ref a))) (h : H a = some (.lst xs)) (g : G a = none) (r : Dats G xs ds) :
    ER B (upd G a (.lst xs)) H σ (δ.set i (.pu (.list ds))) := by
  have sg : Same G (upd G a (.lst xs)) := same_new g
  refine ⟨by rw [List.length_set]; exact E.len, fun j o s h1 h2 => ?_, fun j k a' ds' es' hjk h1 h2 h3 h4 => ?_⟩
  · rcases set_get h2 with ⟨rfl, _, e2⟩ | ⟨hne, h2⟩
    · subst e2
      rw [hs] at h1
      exact ⟨.ref a, (Option.some.inj h1).symm, .lst upd_same (r.same sg)⟩
    · have z := E.at_ j o s h1 h2
      cases s with
      | any => trivial
      | pu d =>
        obtain ⟨v, q, r'⟩ := z
        exact ⟨v, q, r'.same sg⟩
      | ow fs =>
        obtain ⟨a', xs', q, hh, g', b', r'⟩ := z
        have hne2 : a' ≠ a := fun e => by
          subst e
          rw [q] at h1
          exact E.ne i j a' _ _ hne hi h2 hs h1
        exact ⟨a', xs', q, hh, by rw [upd_ne hne2]; exact g', b', r'.same sg⟩
  · rcases set_get h1 with ⟨_, _, e⟩ | ⟨n1, h1⟩
    · cases e
    · rcases set_get h2 with ⟨_, _, e⟩ | ⟨n2, h2⟩
      · cases e
      · exact E.ne j k a' _ _ hjk h1 h2 h3 h4
theorem ER.forget (E : ER B G H σ δ) (i : Nat) (o : Option V) : ER B G H (σ.set i o) (δ.set i .any) := by
  refine ⟨by rw [List.length_set, List.length_set]; exact E.len, fun j o' s h1 h2 => ?_, fun j k a ds es hjk h1 h2 h3 h4 => ?_⟩
  · rcases set_get h2 with ⟨rfl, _, e2⟩ | ⟨hne, h2⟩
    · subst e2; trivial
    · rw [List.getElem?_set_ne hne] at h1
      exact E.at_ j o' s h1 h2
  · rcases set_get h1 with ⟨_, _, e⟩ | ⟨n1, h1⟩
    · cases e
    · rcases set_get h2 with ⟨_, _, e⟩ | ⟨n2, h2⟩
      · cases e
      · rw [List.getElem?_set_ne n1] at h3
        rw [List.getElem?_set_ne n2] at h4
        exact E.ne j k a ds es hjk h1 h2 h3 h4
end
def wipeA (δ : List Sl) : List Nat → List Sl
  | [] => δ
  | v :: vs => (wipeA δ vs).set v .any
theorem ER.wipe {B G H : Hp} {σ : L2.St} {δ : List Sl} (E : ER B G H σ δ) : ∀ vs : List Nat, ER B G H (L2.wipe σ vs) (wipeA δ vs)
  | [] => E
  | v :: vs => (E.wipe vs).forget v none
/-- weaker knowledge of a slot -/
theorem ER.any {B G H : Hp} {σ : L2.St} {δ : List Sl} (E : ER B G H σ δ) (i : Nat) : ER B G H σ (δ.set i .any) := by
  refine ⟨by rw [List.length_set]; exact E.len, fun j o s h1 h2 => ?_, fun j k a ds es hjk h1 h2 h3 h4 => ?_⟩
  · rcases set_get h2 with ⟨rfl, _, e2⟩ | ⟨hne, h2⟩
    · subst e2; trivial
    · exact E.at_ j o s h1 h2
  · rcases set_get h1 with ⟨_, _, e⟩ | ⟨n1, h1⟩
    · cases e
    · rcases set_get h2 with ⟨_, _, e⟩ | ⟨n2, h2⟩
      · cases e
      · exact E.ne j k a ds es hjk h1 h2 h3 h4

/-! ### expressions -/
/-- what is wanted where te gives data of which P holds -/
def EvP (te : TE) (δ : List Sl) (P : PyData → Prop) : Prop := ∀ (B G H : Hp) (σ : L2.St), Same G H → Same B H → ER B G H σ δ → ∀ Q : VK, (∀ v H' d, Same H H' → Dat (ext G H H') v d → P d → Q v H') → te σ H Q
def EvE (te : TE) (δ : List Sl) (d : PyData) : Prop := ∀ (B G H : Hp) (σ : L2.St), Same G H → Same B H → ER B G H σ δ → ∀ Q : VK, (∀ v H', Same H H' → Dat (ext G H H') v d → Q v H') → te σ H Q
/-- te gives a list, data or one of a slot's own -/
def EvL (te : TE) (δ : List Sl) (ds : List PyData) : Prop := ∀ (B G H : Hp) (σ : L2.St), Same G H → Same B H → ER B G H σ δ → ∀ Q : VK, (∀ a xs H', Same H H' → H' a = some (.lst xs) → Dats (ext G H H') xs ds → Q (.ref a) H') → te σ H Q
def EvT (tt : TT) (δ : List Sl) (b : Bool) : Prop := ∀ (B G H : Hp) (σ : L2.St), Same G H → Same B H → ER B G H σ δ → ∀ Q : Bool → Hp → Prop, (∀ H', Same H H' → Q b H') → tt σ H Q
def EvA (ta : TA) (δ : List Sl) (ds : List PyData) : Prop := ∀ (B G H : Hp) (σ : L2.St), Same G H → Same B H → ER B G H σ δ → ∀ Q : List V → Hp → Prop, (∀ vs H', Same H H' → Dats (ext G H H') vs ds → Q vs H') → ta σ H Q
section
variable {δ : List Sl} {te ta tb : TE} {d d1 d2 d' : PyData} {ds es : List PyData} {tt tu : TT} {K : PySem.W.Frag}
theorem EvE.is (h : EvE te δ d) (e : d = d') : EvE te δ d' := e ▸ h
theorem EvT.is {b b' : Bool} (h : EvT tt δ b) (e : b = b') : EvT tt δ b' := e ▸ h
theorem EvE.p {P : PyData → Prop} (h : EvE te δ d) (hp : P d) : EvP te δ P := fun B G H σ e1 e2 E Q q => h B G H σ e1 e2 E Q fun v H' s r => q v H' d s r hp
/-- two in a row -/
theorem step2 {B G H H1 H2 : Hp} {v : V} (e1 : Same G H) (s1 : Same H H1) (s2 : Same H1 H2) (r : Dat (ext (ext G H H1) H1 H2) v d) : Dat (ext G H H2) v d := by
  rw [ext_ext s1 s2] at r
  exact r
theorem eve_var {i : Nat} (h : δ[i]? = some (.pu d)) : EvE (tVar i) δ d := fun B G H σ e1 e2 E Q q => by
  obtain ⟨v, hv, r⟩ := E.pure h
  exact ⟨v, hv, q v H (Same.refl H) (r.same ext_l)⟩
theorem eve_int {i : Int} : EvE (tC (.int i)) δ (.int i) := fun B G H σ e1 e2 E Q q => q _ H (Same.refl H) (.int i)
theorem eve_bl {b : Bool} : EvE (tC (.bl b)) δ (.bool b) := fun B G H σ e1 e2 E Q q => q _ H (Same.refl H) (.bl b)
theorem eve_non : EvE (tC .non) δ .none := fun B G H σ e1 e2 E Q q => q _ H (Same.refl H) .non
theorem eve_str {x : Str} : EvE (tC (.str x)) δ (.str x) := fun B G H σ e1 e2 E Q q => q _ H (Same.refl H) (.str x)
def OpD (r : R2) (d1 d2 d : PyData) : Prop := ∀ (G H : Hp) (x y : V), Same G H → Dat G x d1 → Dat G y d2 → ∀ Q : VK, (∀ v H', Same H H' → Dat (ext G H H') v d → Q v H') → r x y H Q
theorem eve_op {r : R2} (ha : EvE ta δ d1) (hb : EvE tb δ d2) (hr : OpD r d1 d2 d) : EvE (tOp r ta tb) δ d := fun B G H σ e1 e2 E Q q =>
  ha B G H σ e1 e2 E _ fun x H1 s1 r1 => hb B (ext G H H1) H1 σ (ext_r e1 s1) (e2.trans s1) (E.step s1) _ fun y H2 s2 r2 => by
    rw [ext_ext s1 s2] at r2
    have s12 := s1.trans s2
    have r1' : Dat (ext G H H2) x d1 := r1.same (by rw [← ext_ext s1 s2]; exact ext_l)
    refine hr (ext G H H2) H2 x y (ext_r e1 s12) r1' r2 Q fun v H3 s3 r3 => ?_
    rw [ext_ext s12 s3] at r3
    exact q v H3 (s12.trans s3) r3
theorem eve_opP {r : R2} {P : PyData → Prop} (ha : EvE ta δ d1) (hb : EvE tb δ d2) (hr : ∀ (G H : Hp) (x y : V), Same G H → Dat G x d1 → Dat G y d2 → ∀ Q : VK, (∀ v H' d, Same H H' → Dat (ext G H H') v d → P d → Q v H') → r x y H Q) : EvP (tOp r ta tb) δ P := fun B G H σ e1 e2 E Q q =>
  ha B G H σ e1 e2 E _ fun x H1 s1 r1 => hb B (ext G H H1) H1 σ (ext_r e1 s1) (e2.trans s1) (E.step s1) _ fun y H2 s2 r2 => by
    rw [ext_ext s1 s2] at r2
    have s12 := s1.trans s2
    have r1' : Dat (ext G H H2) x d1 := r1.same (by rw [← ext_ext s1 s2]; exact ext_l)
    refine hr (ext G H H2) H2 x y (ext_r e1 s12) r1' r2 Q fun v H3 d s3 r3 hp => ?_
    rw [ext_ext s12 s3] at r3
    exact q v H3 d (s12.trans s3) r3 hp
theorem opd_I0 {g : Int → Int → Int} {i j : Int} : OpD (rI0 fun i j => .int (g i j)) (.int i) (.int j) (.int (g i j)) := fun G H x y e h1 h2 Q q => ⟨i, j, h1.eqInt, h2.eqInt, q _ H (Same.refl H) (.int _)⟩
theorem opd_I {C : Int → Int → Prop} {g : Int → Int → Int} {i j : Int} (hc : C i j) : OpD (rI C fun i j => .int (g i j)) (.int i) (.int j) (.int (g i j)) := fun G H x y e h1 h2 Q q => ⟨i, j, h1.eqInt, h2.eqInt, hc, q _ H (Same.refl H) (.int _)⟩
theorem opd_B0 {g : Int → Int → Bool} {i j : Int} : OpD (rI0 fun i j => .bl (g i j)) (.int i) (.int j) (.bool (g i j)) := fun G H x y e h1 h2 Q q => ⟨i, j, h1.eqInt, h2.eqInt, q _ H (Same.refl H) (.bl _)⟩
theorem opd_eqI {i j : Int} : OpD rEq (.int i) (.int j) (.bool (decide (i = j))) := fun G H x y e h1 h2 Q q => by
  rw [h1.eqInt, h2.eqInt]
  refine ⟨rfl, q _ H (Same.refl H) ?_⟩
  have e : decide (V.int i = V.int j) = decide (i = j) := by by_cases h : i = j <;> simp [h]
  rw [e]
  exact .bl _
theorem opd_neI {i j : Int} : OpD rNe (.int i) (.int j) (.bool (!decide (i = j))) := fun G H x y e h1 h2 Q q => by
  rw [h1.eqInt, h2.eqInt]
  refine ⟨rfl, q _ H (Same.refl H) ?_⟩
  have e : decide (V.int i = V.int j) = decide (i = j) := by by_cases h : i = j <;> simp [h]
  rw [e]
  exact .bl _
theorem opd_eqB {i j : Bool} : OpD rEq (.bool i) (.bool j) (.bool (decide (i = j))) := fun G H x y e h1 h2 Q q => by
  rw [h1.eqBool, h2.eqBool]
  refine ⟨rfl, q _ H (Same.refl H) ?_⟩
  have e : decide (V.bl i = V.bl j) = decide (i = j) := by by_cases h : i = j <;> simp [h]
  rw [e]
  exact .bl _
theorem opd_neB {i j : Bool} : OpD rNe (.bool i) (.bool j) (.bool (!decide (i = j))) := fun G H x y e h1 h2 Q q => by
  rw [h1.eqBool, h2.eqBool]
  refine ⟨rfl, q _ H (Same.refl H) ?_⟩
  have e : decide (V.bl i = V.bl j) = decide (i = j) := by by_cases h : i = j <;> simp [h]
  rw [e]
  exact .bl _
theorem opd_eqS {i j : Str} : OpD rEq (.str i) (.str j) (.bool (decide (i = j))) := fun G H x y e h1 h2 Q q => by
  rw [h1.eqStr, h2.eqStr]
  refine ⟨rfl, q _ H (Same.refl H) ?_⟩
  have e : decide (V.str i = V.str j) = decide (i = j) := by by_cases h : i = j <;> simp [h]
  rw [e]
  exact .bl _
theorem opd_ixT {i : Nat} (h : ds[i]? = some d) : OpD (rIxT K) (.tuple ds) (.int (i : Int)) d := fun G H x y e h1 h2 Q q => by
  obtain ⟨a, xs, rfl, g, r⟩ := h1.inTup
  obtain ⟨v, hv, rv⟩ := r.get h
  rw [h2.eqInt]
  exact ⟨a, xs, i, v, rfl, rfl, SqT.of (e _ _ g), atI_nat hv, q v H (Same.refl H) (rv.same ext_l)⟩
def isN : PyData → Bool
  | .none => true
  | _ => false
theorem opd_isN {d1 : PyData} : OpD (fun x y H Q => y = .non ∧ Q (.bl (decide (x = .non))) H) d1 .none (.bool (isN d1)) := fun G H x y e h1 h2 Q q => by
  refine ⟨h2.eqNone, q _ H (Same.refl H) ?_⟩
  have e : decide (x = .non) = isN d1 := by cases h1 <;> simp [isN]
  rw [e]
  exact .bl _
theorem opd_notN {d1 : PyData} : OpD (fun x y H Q => y = .non ∧ Q (.bl (!decide (x = .non))) H) d1 .none (.bool (!isN d1)) := fun G H x y e h1 h2 Q q => by
  refine ⟨h2.eqNone, q _ H (Same.refl H) ?_⟩
  have e : decide (x = .non) = isN d1 := by cases h1 <;> simp [isN]
  rw [e]
  exact .bl _
theorem opd_eqD (s1 : SeqAt.shaped d1 = true) (s2 : SeqAt.shaped d2 = true) : OpD (rEqD K) d1 d2 (.bool (PyData.eqv d1 d2)) := fun G H x y e h1 h2 Q q =>
  ⟨d1, d2, (h1.same e).dp (SeqAt.canLay_of_shaped s1), (h2.same e).dp (SeqAt.canLay_of_shaped s2), s1, s2, q _ H (Same.refl H) (.bl _)⟩
theorem opd_neD (s1 : SeqAt.shaped d1 = true) (s2 : SeqAt.shaped d2 = true) : OpD (rNeD K) d1 d2 (.bool (!PyData.eqv d1 d2)) := fun G H x y e h1 h2 Q q =>
  ⟨d1, d2, (h1.same e).dp (SeqAt.canLay_of_shaped s1), (h2.same e).dp (SeqAt.canLay_of_shaped s2), s1, s2, q _ H (Same.refl H) (.bl _)⟩

/-! ### lists -/
theorem evl_of (h : EvE te δ (.list ds)) : EvL te δ ds := fun B G H σ e1 e2 E Q q => h B G H σ e1 e2 E Q fun v H' s r => by
  obtain ⟨a, xs, rfl, g, r'⟩ := r.inLst
  exact q a xs H' s (ext_r e1 s _ _ g) r'
theorem evl_own {i : Nat} (h : δ[i]? = some (.ow ds)) : EvL (tVar i) δ ds := fun B G H σ e1 e2 E Q q => by
  obtain ⟨a, xs, hs, hh, g, b, r⟩ := E.own h
  exact ⟨.ref a, hs, q a xs H (Same.refl H) hh (r.same ext_l)⟩
/-- a list on the left -/
def OpL (r : R2) (ds : List PyData) (d2 d : PyData) : Prop := ∀ (G H : Hp) (a : Addr) (xs : List V) (y : V), Same G H → H a = some (.lst xs) → Dats G xs ds → Dat G y d2 → ∀ Q : VK, (∀ v H', Same H H' → Dat (ext G H H') v d → Q v H') → r (.ref a) y H Q
theorem eve_opL {r : R2} (ha : EvL ta δ ds) (hb : EvE tb δ d2) (hr : OpL r ds d2 d) : EvE (tOp r ta tb) δ d := fun B G H σ e1 e2 E Q q =>
  ha B G H σ e1 e2 E _ fun a xs H1 s1 h1 r1 => hb B (ext G H H1) H1 σ (ext_r e1 s1) (e2.trans s1) (E.step s1) _ fun y H2 s2 r2 => by
    rw [ext_ext s1 s2] at r2
    have s12 := s1.trans s2
    have r1' : Dats (ext G H H2) xs ds := r1.same (by rw [← ext_ext s1 s2]; exact ext_l)
    refine hr (ext G H H2) H2 a xs y (ext_r e1 s12) (s2 _ _ h1) r1' r2 Q fun v H3 s3 r3 => ?_
    rw [ext_ext s12 s3] at r3
    exact q v H3 (s12.trans s3) r3
/-- a list on the right -/
def OpR' (r : R2) (d1 : PyData) (ds : List PyData) (d : PyData) : Prop := ∀ (G H : Hp) (x : V) (a : Addr) (xs : List V), Same G H → Dat G x d1 → H a = some (.lst xs) → Dats G xs ds → ∀ Q : VK, (∀ v H', Same H H' → Dat (ext G H H') v d → Q v H') → r x (.ref a) H Q
theorem eve_opR {r : R2} (ha : EvE ta δ d1) (hb : EvL tb δ ds) (hr : OpR' r d1 ds d) : EvE (tOp r ta tb) δ d := fun B G H σ e1 e2 E Q q =>
  ha B G H σ e1 e2 E _ fun x H1 s1 r1 => hb B (ext G H H1) H1 σ (ext_r e1 s1) (e2.trans s1) (E.step s1) _ fun a xs H2 s2 h2 r2 => by
    rw [ext_ext s1 s2] at r2
    have s12 := s1.trans s2
    have r1' : Dat (ext G H H2) x d1 := r1.same (by rw [← ext_ext s1 s2]; exact ext_l)
    refine hr (ext G H H2) H2 x a xs (ext_r e1 s12) r1' h2 r2 Q fun v H3 s3 r3 => ?_
    rw [ext_ext s12 s3] at r3
    exact q v H3 (s12.trans s3) r3
/-- lists on both sides -/
theorem eve_opLL {r : R2} (ha : EvL ta δ ds) (hb : EvL tb δ es) (hr : ∀ (G H : Hp) (a b : Addr) (xs ys : List V), Same G H → H a = some (.lst xs) → H b = some (.lst ys) → Dats G xs ds → Dats G ys es → ∀ Q : VK, (∀ v H', Same H H' → Dat (ext G H H') v d → Q v H') → r (.ref a) (.ref b) H Q) : EvE (tOp r ta tb) δ d := fun B G H σ e1 e2 E Q q =>
  ha B G H σ e1 e2 E _ fun a xs H1 s1 h1 r1 => hb B (ext G H H1) H1 σ (ext_r e1 s1) (e2.trans s1) (E.step s1) _ fun b ys H2 s2 h2 r2 => by
    rw [ext_ext s1 s2] at r2
    have s12 := s1.trans s2
    have r1' : Dats (ext G H H2) xs ds := r1.same (by rw [← ext_ext s1 s2]; exact ext_l)
    refine hr (ext G H H2) H2 a b xs ys (ext_r e1 s12) (s2 _ _ h1) h2 r1' r2 Q fun v H3 s3 r3 => ?_
    rw [ext_ext s12 s3] at r3
    exact q v H3 (s12.trans s3) r3
theorem opl_ix {i : Nat} (h : ds[i]? = some d) : OpL (rIxL K) ds (.int (i : Int)) d := fun G H a xs y e h1 r h2 Q q => by
  obtain ⟨v, hv, rv⟩ := r.get h
  rw [h2.eqInt]
  exact ⟨a, xs, i, v, rfl, rfl, SqL.of h1, atI_nat hv, q v H (Same.refl H) (rv.same ext_l)⟩
/-- + of lists: a new one -/
theorem eve_cat (ha : EvL ta δ ds) (hb : EvL tb δ es) (hz : ds.length + es.length ≤ 100000) : EvE (tOp rCat ta tb) δ (.list (ds ++ es)) :=
  eve_opLL ha hb fun G H a b xs ys e h1 h2 r1 r2 Q q => by
    refine ⟨a, b, xs, ys, rfl, rfl, h1, h2, by rw [r1.len, r2.len]; exact Nat.le_trans hz (by decide), fun p hp => ?_⟩
    have s := same_new (o := .lst (xs ++ ys)) hp
    exact q _ _ s (.lst (ext_new hp (e.free hp) upd_same) ((r1.app r2).same ext_l))
/-- scalars, as `in` compares them -/
def flatD : PyData → Bool
  | .none => true
  | .bool _ => true
  | .int _ => true
  | .str _ => true
  | _ => false
def eqFl : PyData → PyData → Bool
  | .int i, .int j => decide (i = j)
  | .bool i, .bool j => decide (i = j)
  | _, _ => false
theorem opr_inI {i : Int} {ns : List Int} {neg : Bool} : OpR' (rIn K neg) (.int i) (ns.map .int) (.bool (if neg then !(decide (i ∈ ns)) else decide (i ∈ ns))) := fun G H x a xs e h1 h2 r Q q => by
  have ex : ∀ {xs : List V} {ns : List Int}, Dats G xs (ns.map .int) → xs = ns.map V.int := by
    intro xs
    induction xs with
    | nil =>
      intro ns r
      cases ns with
      | nil => rfl
      | cons n ns => cases r
    | cons x xs ih =>
      intro ns r
      cases ns with
      | nil => cases r
      | cons n ns =>
        cases r with
        | cons h r => rw [h.eqInt, ih r]; rfl
  rw [h1.eqInt]
  have ex := ex r
  subst ex
  have hin : inV (.int i) (ns.map V.int) = decide (i ∈ ns) := by
    unfold inV
    rw [List.any_map]
    rw [Bool.eq_iff_iff]
    simp [eqV, List.any_eq_true]
  refine ⟨a, ns.map V.int, rfl, .inl (SqL.of h2), rfl, by simp [flatV], q _ H (Same.refl H) ?_⟩
  rw [hin]
  exact .bl _

/-! ### tests -/
theorem evt_test {b : Bool} (h : EvE te δ (.bool b)) : EvT (tTest te) δ b := fun B G H σ e1 e2 E Q q => h B G H σ e1 e2 E _ fun v H' s r => ⟨b, r.eqBool, q H' s⟩
theorem evt_B {b : Bool} (h : EvE te δ (.bool b)) : EvT (tB te) δ b := fun B G H σ e1 e2 E Q q => h B G H σ e1 e2 E _ fun v H' s r => ⟨b, r.eqBool, q H' s⟩
theorem evt_and {a b : Bool} (h1 : EvT tt δ a) (h2 : a = true → EvT tu δ b) : EvT (tAnd tt tu) δ (a && b) := fun B G H σ e1 e2 E Q q => h1 B G H σ e1 e2 E _ fun H1 s1 => by
  cases a with
  | true =>
    rw [if_pos rfl]
    exact h2 rfl B (ext G H H1) H1 σ (ext_r e1 s1) (e2.trans s1) (E.step s1) Q fun H2 s2 => q H2 (s1.trans s2)
  | false =>
    rw [if_neg Bool.false_ne_true]
    exact q H1 s1
theorem evt_or {a b : Bool} (h1 : EvT tt δ a) (h2 : a = false → EvT tu δ b) : EvT (tOr tt tu) δ (a || b) := fun B G H σ e1 e2 E Q q => h1 B G H σ e1 e2 E _ fun H1 s1 => by
  cases a with
  | true =>
    rw [if_pos rfl]
    exact q H1 s1
  | false =>
    rw [if_neg Bool.false_ne_true]
    exact h2 rfl B (ext G H H1) H1 σ (ext_r e1 s1) (e2.trans s1) (E.step s1) Q fun H2 s2 => q H2 (s1.trans s2)
theorem evt_not {a : Bool} (h1 : EvT tt δ a) : EvT (tNot tt) δ (!a) := fun B G H σ e1 e2 E Q q => h1 B G H σ e1 e2 E _ fun H1 s1 => q H1 s1
theorem eve_andV {a b : Bool} (h1 : EvE ta δ (.bool a)) (h2 : a = true → EvE tb δ (.bool b)) : EvE (tAndV ta tb) δ (.bool (a && b)) := fun B G H σ e1 e2 E Q q => h1 B G H σ e1 e2 E _ fun v H1 s1 r => ⟨a, r.eqBool, by
  cases a with
  | true =>
    rw [if_pos rfl]
    refine h2 rfl B (ext G H H1) H1 σ (ext_r e1 s1) (e2.trans s1) (E.step s1) Q fun u H2 s2 r2 => q u H2 (s1.trans s2) ?_
    rw [ext_ext s1 s2] at r2
    exact r2
  | false =>
    rw [if_neg Bool.false_ne_true]
    exact q _ H1 s1 (.bl false)⟩
theorem eve_orV {a b : Bool} (h1 : EvE ta δ (.bool a)) (h2 : a = false → EvE tb δ (.bool b)) : EvE (tOrV ta tb) δ (.bool (a || b)) := fun B G H σ e1 e2 E Q q => h1 B G H σ e1 e2 E _ fun v H1 s1 r => ⟨a, r.eqBool, by
  cases a with
  | true =>
    rw [if_pos rfl]
    exact q _ H1 s1 (.bl true)
  | false =>
    rw [if_neg Bool.false_ne_true]
    refine h2 rfl B (ext G H H1) H1 σ (ext_r e1 s1) (e2.trans s1) (E.step s1) Q fun u H2 s2 r2 => q u H2 (s1.trans s2) ?_
    rw [ext_ext s1 s2] at r2
    exact r2⟩
theorem eve_notV {a : Bool} (h1 : EvE ta δ (.bool a)) : EvE (tNotV ta) δ (.bool (!a)) := fun B G H σ e1 e2 E Q q => h1 B G H σ e1 e2 E _ fun v H1 s1 r => ⟨a, r.eqBool, q _ H1 s1 (.bl _)⟩
theorem eve_if {b : Bool} (h : EvT tt δ b) (h1 : b = true → EvE ta δ d) (h2 : b = false → EvE tb δ d) : EvE (tIf tt ta tb) δ d := fun B G H σ e1 e2 E Q q => h B G H σ e1 e2 E _ fun H1 s1 => by
  cases b with
  | true =>
    rw [if_pos rfl]
    refine h1 rfl B (ext G H H1) H1 σ (ext_r e1 s1) (e2.trans s1) (E.step s1) Q fun u H2 s2 r2 => q u H2 (s1.trans s2) ?_
    rw [ext_ext s1 s2] at r2
    exact r2
  | false =>
    rw [if_neg Bool.false_ne_true]
    refine h2 rfl B (ext G H H1) H1 σ (ext_r e1 s1) (e2.trans s1) (E.step s1) Q fun u H2 s2 r2 => q u H2 (s1.trans s2) ?_
    rw [ext_ext s1 s2] at r2
    exact r2

/-! ### arguments, displays, calls -/
theorem eva_nil : EvA tNil δ [] := fun B G H σ e1 e2 E Q q => q [] H (Same.refl H) .nil
theorem eva_cons {tr : TA} (h : EvE te δ d) (hr : EvA tr δ ds) : EvA (tCons te tr) δ (d :: ds) := fun B G H σ e1 e2 E Q q =>
  h B G H σ e1 e2 E _ fun v H1 s1 r1 => hr B (ext G H H1) H1 σ (ext_r e1 s1) (e2.trans s1) (E.step s1) _ fun vs H2 s2 r2 => q _ H2 (s1.trans s2) (by
    rw [ext_ext s1 s2] at r2
    exact .cons (r1.same (by rw [← ext_ext s1 s2]; exact ext_l)) r2)
theorem eve_tup {ta : TA} (h : EvA ta δ ds) (hz : ds.length ≤ 100000) : EvE (tTup ta) δ (.tuple ds) := fun B G H σ e1 e2 E Q q =>
  h B G H σ e1 e2 E _ fun vs H1 s1 r => by
    refine ⟨by rw [r.len]; exact Nat.le_trans hz (by decide), fun p hp => ?_⟩
    have s := same_new (o := .tup vs) hp
    refine q _ _ (s1.trans s) (.tup (ext_new (s1.free hp) ((e1.trans s1).free hp) upd_same) (r.same ?_))
    rw [← ext_ext s1 s]
    exact ext_l
theorem eve_lst {ta : TA} (h : EvA ta δ ds) (hz : ds.length ≤ 100000) : EvE (tLst ta) δ (.list ds) := fun B G H σ e1 e2 E Q q =>
  h B G H σ e1 e2 E _ fun vs H1 s1 r => by
    refine ⟨by rw [r.len]; exact Nat.le_trans hz (by decide), fun p hp => ?_⟩
    have s := same_new (o := .lst vs) hp
    refine q _ _ (s1.trans s) (.lst (ext_new (s1.free hp) ((e1.trans s1).free hp) upd_same) (r.same ?_))
    rw [← ext_ext s1 s]
    exact ext_l
/-- a built-in called with data -/
def ClD (r : List V → Hp → VK → Prop) (ds : List PyData) (d : PyData) : Prop := ∀ (G H : Hp) (vs : List V), Same G H → Dats G vs ds → ∀ Q : VK, (∀ v H', Same H H' → Dat (ext G H H') v d → Q v H') → r vs H Q
theorem eve_cb {r : List V → Hp → VK → Prop} {ta : TA} (h : EvA ta δ ds) (hr : ClD r ds d) : EvE (tCB r ta) δ d := fun B G H σ e1 e2 E Q q =>
  h B G H σ e1 e2 E _ fun vs H1 s1 r1 => hr (ext G H H1) H1 vs (ext_r e1 s1) r1 Q fun v H2 s2 r2 => q v H2 (s1.trans s2) (by rw [ext_ext s1 s2] at r2; exact r2)
/-- a built-in called with one list -/
def ClL (r : List V → Hp → VK → Prop) (ds : List PyData) (d : PyData) : Prop := ∀ (G H : Hp) (a : Addr) (xs : List V), Same G H → H a = some (.lst xs) → Dats G xs ds → ∀ Q : VK, (∀ v H', Same H H' → Dat (ext G H H') v d → Q v H') → r [.ref a] H Q
theorem eve_cbL {r : List V → Hp → VK → Prop} (h : EvL te δ ds) (hr : ClL r ds d) : EvE (tCB r (tCons te tNil)) δ d := fun B G H σ e1 e2 E Q q =>
  h B G H σ e1 e2 E _ fun a xs H1 s1 h1 r1 => hr (ext G H H1) H1 a xs (ext_r e1 s1) h1 r1 Q fun v H2 s2 r2 => q v H2 (s1.trans s2) (by rw [ext_ext s1 s2] at r2; exact r2)
theorem cll_len : ClL (fun xs H Q => ∃ p ys, xs = [V.ref p] ∧ (SqL K H p ys ∨ SqT K H p ys) ∧ Q (.int ys.length) H) ds (.int (ds.length : Int)) := fun G H a xs e h r Q q =>
  ⟨a, xs, rfl, .inl (SqL.of h), by rw [r.len]; exact q _ H (Same.refl H) (.int _)⟩
theorem cld_lenT : ClD (fun xs H Q => ∃ p ys, xs = [V.ref p] ∧ (SqL K H p ys ∨ SqT K H p ys) ∧ Q (.int ys.length) H) [.tuple ds] (.int (ds.length : Int)) := fun G H vs e r Q q => by
  cases r with
  | cons h r =>
    cases r
    obtain ⟨a, xs, rfl, g, r'⟩ := h.inTup
    exact ⟨a, xs, rfl, .inr (SqT.of (e _ _ g)), by rw [r'.len]; exact q _ H (Same.refl H) (.int _)⟩
theorem cll_list : ClL (fun xs H Q => ∃ p ys, xs = [V.ref p] ∧ (SqL K H p ys ∨ SqT K H p ys) ∧ ∀ l, H l = none → Q (.ref l) (upd H l (.lst ys))) ds (.list ds) := fun G H a xs e h r Q q =>
  ⟨a, xs, rfl, .inl (SqL.of h), fun l hl => q _ _ (same_new hl) (.lst (ext_new hl (e.free hl) upd_same) (r.same ext_l))⟩
theorem cld_listT : ClD (fun xs H Q => ∃ p ys, xs = [V.ref p] ∧ (SqL K H p ys ∨ SqT K H p ys) ∧ ∀ l, H l = none → Q (.ref l) (upd H l (.lst ys))) [.tuple ds] (.list ds) := fun G H vs e r Q q => by
  cases r with
  | cons h r =>
    cases r
    obtain ⟨a, xs, rfl, g, r'⟩ := h.inTup
    exact ⟨a, xs, rfl, .inr (SqT.of (e _ _ g)), fun l hl => q _ _ (same_new hl) (.lst (ext_new hl (e.free hl) upd_same) (r'.same ext_l))⟩
theorem cll_tuple : ClL (fun xs H Q => ∃ p ys, xs = [V.ref p] ∧ ((SqL K H p ys ∧ ∀ l, H l = none → Q (.ref l) (upd H l (.tup ys))) ∨ (SqT K H p ys ∧ Q (.ref p) H))) ds (.tuple ds) := fun G H a xs e h r Q q =>
  ⟨a, xs, rfl, .inl ⟨SqL.of h, fun l hl => q _ _ (same_new hl) (.tup (ext_new hl (e.free hl) upd_same) (r.same ext_l))⟩⟩
theorem cld_max {i j : Int} : ClD (fun xs H Q => ∃ i j, xs = [V.int i, V.int j] ∧ Q (.int (if j > i then j else i)) H) [.int i, .int j] (.int (if j > i then j else i)) := fun G H vs e r Q q => by
  cases r with
  | cons h r =>
    cases r with
    | cons h' r =>
      cases r
      exact ⟨i, j, by rw [h.eqInt, h'.eqInt], q _ H (Same.refl H) (.int _)⟩
theorem cld_min {i j : Int} : ClD (fun xs H Q => ∃ i j, xs = [V.int i, V.int j] ∧ Q (.int (if j < i then j else i)) H) [.int i, .int j] (.int (if j < i then j else i)) := fun G H vs e r Q q => by
  cases r with
  | cons h r =>
    cases r with
    | cons h' r =>
      cases r
      exact ⟨i, j, by rw [h.eqInt, h'.eqInt], q _ H (Same.refl H) (.int _)⟩
theorem cld_abs {i : Int} : ClD (fun xs H Q => ∃ i, xs = [V.int i] ∧ Q (.int (if i < 0 then -i else i)) H) [.int i] (.int (if i < 0 then -i else i)) := fun G H vs e r Q q => by
  cases r with
  | cons h r =>
    cases r
    exact ⟨i, by rw [h.eqInt], q _ H (Same.refl H) (.int _)⟩
theorem cld_int {i : Int} : ClD (fun xs H Q => (∃ i, xs = [V.int i] ∧ Q (.int i) H) ∨ ∃ k, xs = [V.bl k] ∧ Q (.int (if k then 1 else 0)) H) [.int i] (.int i) := fun G H vs e r Q q => by
  cases r with
  | cons h r =>
    cases r
    exact .inl ⟨i, by rw [h.eqInt], q _ H (Same.refl H) (.int _)⟩
theorem cld_intB {b : Bool} : ClD (fun xs H Q => (∃ i, xs = [V.int i] ∧ Q (.int i) H) ∨ ∃ k, xs = [V.bl k] ∧ Q (.int (if k then 1 else 0)) H) [.bool b] (.int (if b then 1 else 0)) := fun G H vs e r Q q => by
  cases r with
  | cons h r =>
    cases r
    exact .inr ⟨b, by rw [h.eqBool], q _ H (Same.refl H) (.int _)⟩
/-- THE PROMISE of a def over data: asked pre of x, it answers by data of which post holds -/
def spD {α : Type} (args : α → List PyData) (pre : α → Prop) (post : α → PyData → Prop) : Sp := fun vs H Q _ => ∃ (x : α) (G : Hp), Same G H ∧ Dats G vs (args x) ∧ pre x ∧ ∀ v H' d, Same H H' → Dat (ext G H H') v d → post x d → Q v H'
theorem spD_len {α : Type} {args : α → List PyData} {pre : α → Prop} {post : α → PyData → Prop} {n : Nat} (hn : ∀ x, (args x).length = n) (vs : List V) (H : Hp) (Q : VK) (E : XK) (h : spD args pre post vs H Q E) : vs.length = n := by
  obtain ⟨x, G, _, r, _⟩ := h
  rw [r.len, hn]
theorem evp_call {α : Type} {args : α → List PyData} {pre : α → Prop} {post : α → PyData → Prop} {ta : TA} {E : XK} (x : α) (h : EvA ta δ (args x)) (hp : pre x) : EvP (tCall (spD args pre post) [] E ta) δ (post x) := fun B G H σ e1 e2 E' Q q =>
  h B G H σ e1 e2 E' _ fun vs H1 s1 r1 => by
    refine ⟨x, ext G H H1, ext_r e1 s1, by rw [List.append_nil]; exact r1, hp, fun v H2 d s2 r2 hd => q v H2 d (s1.trans s2) ?_ hd⟩
    rw [ext_ext s1 s2] at r2
    exact r2
theorem eve_call {α : Type} {args : α → List PyData} {pre : α → Prop} {res : α → PyData} {ta : TA} {E : XK} (x : α) (h : EvA ta δ (args x)) (hp : pre x) : EvE (tCall (spD args pre fun x d => d = res x) [] E ta) δ (res x) := fun B G H σ e1 e2 E' Q q =>
  evp_call (post := fun x d => d = res x) x h hp B G H σ e1 e2 E' Q fun v H' d s r e => q v H' s (by rw [← e]; exact r)
end
end DL
end
section
set_option Elab.async false
set_option linter.all false
set_option maxRecDepth 100000
set_option maxHeartbeats 4000000
namespace GX
open PySem PySem.Spec PyProof.Rows L2 GenW
section
variable {X : Cx} {pos : Pos}
/-- an if whose ways may hand out -/
def tGIf (c : TT) (t u : TGn) : TGn := fun D ys σ H => c σ H fun b H1 => if b = true then t D ys σ H1 else u D ys σ H1
theorem gs_if {c : Expr} {a b : List Stmt} {tc : TT} {t u : TGn} (hc : PT X c tc) (ha : GSs X a t) (hb : GSs X b u) : GS X (.If c a b pos) (tGIf tc t u) := by
  refine ⟨fun A S ip R n ys s0 cd fs K J gd lv s σ H D g hn k hI ht => ?_⟩
  rw [exec_If]
  refine seg_bind_wrap (wpAny_standAt ?_)
  refine seg_bind_wrap ?_
  obtain ⟨acc, c0, r, I⟩ := hI
  rw [g.over]
  refine wpAny_mono (hc.run _ s σ H _ I ht) (fun d s1 hd => ?_) fun x s' hx => k.exc n s0 x s' hx
  obtain ⟨H1, I1, q1⟩ := hd
  cases d with
  | true => exact ha.run A S ip R n ys s0 cd fs K J gd lv s1 σ H1 D g hn k ⟨acc, c0, r, I1⟩ q1
  | false => exact hb.run A S ip R n ys s0 cd fs K J gd lv s1 σ H1 D g hn k ⟨acc, c0, r, I1⟩ q1

/-- code that is run by its own frame -/
theorem seg_own {M : Model} {A : Around} {R : GenEnd} {Y : Protocol} {n : Nat} {s0 : Shared} {c cd : Code} {fs : List Frame} {s : Shared} {env : Env} {K : Flow → Sem PySem.Fin} {J : Value → Sem PySem.Fin} {gd : Bool → Bool} {lv : List Value → List Value}
    (h : ∀ p, Seg M A R Y n s0 cd (M.den cd) (.ret (fun r => ((match r with | .ok f => (.pure f : Sem Flow) | .error e => .raise e).onRaise (cameBack env)).wrap K J gd lv) none (gd false) (lv []) c p [] :: fs) s) :
    Seg M A R Y n s0 c ((runOwn cd env).wrap K J gd lv) fs s := seg_call h

/-- one turn of a for that hands out -/
theorem seg_forTurn {prog : Program} {w : World} {A : Around} {R : GenEnd} {Y : Protocol} {n : Nat} {s0 : Shared} {fs : List Frame} {s : Shared} {env : Env} {tg : Expr} {it : Value} {body : List Stmt}
    (h : wpAny (model prog w) (A.over (.forLoop tg it body [] env) fs) (pyNext it) (fun r s1 => match r with
        | none => Seg (model prog w) A R Y n s0 (.forLoop tg it body [] env) (.pure (.again (.block [] env))) fs s1
        | some v => wpAny (model prog w) (A.over (.forLoop tg it body [] env) fs) (letOwnedTupleGo tg it v) (fun _ s2 =>
            wpAny (model prog w) (A.over (.forLoop tg it body [] env) fs) (assign tg env v) (fun _ s3 =>
              Seg (model prog w) A R Y n s0 (.forLoop tg it body [] env) ((execs body env).wrap (fun f => match f with
                | .next | .cont => .pure (.again (.forLoop tg it body [] env))
                | .brk => .pure (.done .next)
                | .ret v => .pure (.done (.ret v))) (fun e => (do noteFrame e env; theTreesLotGoes e : Sem Unit).wrap (fun _ => .raise e) .raise id id) id id) fs s3)
              (fun x s' => Seg (model prog w) A R Y n s0 (.forLoop tg it body [] env) ((do noteFrame x env; theTreesLotGoes x : Sem Unit).wrap (fun _ => .raise x) .raise id id) fs s') s2)
            (fun x s' => Seg (model prog w) A R Y n s0 (.forLoop tg it body [] env) ((do noteFrame x env; theTreesLotGoes x : Sem Unit).wrap (fun _ => .raise x) .raise id id) fs s') s1)
      (fun x s' => Seg (model prog w) A R Y n s0 (.forLoop tg it body [] env) ((do noteFrame x env; theTreesLotGoes x : Sem Unit).wrap (fun _ => .raise x) .raise id id) fs s') s) :
    Seg (model prog w) A R Y n s0 (.forLoop tg it body [] env) ((model prog w).den (.forLoop tg it body [] env)) fs s := by
  have hh : (fun e => (do noteFrame e env; theTreesLotGoes e : Sem Unit).bind fun _ => (Sem.raise e : Sem PySem.Fin)) = (fun e => (do noteFrame e env; theTreesLotGoes e : Sem Unit).wrap (fun _ => .raise e) .raise id id) := funext fun e => Sem.bind_eq_wrap _ _
  show Seg _ A R Y n s0 _ ((forTurn tg it body [] env).onRaise (fun x => do noteFrame x env; theTreesLotGoes x)) fs s
  rw [Sem.onRaise_eq_wrap, hh]
  unfold forTurn
  refine seg_bind_wrap (wpAny_standAt ?_)
  refine seg_bind_wrap (wpAny_onRaise (wpAny_mono h (fun r s1 h1 => ?_) fun x s' hx => wpAny_standAt hx))
  cases r with
  | none => exact h1
  | some v =>
    refine seg_bind_wrap (wpAny_mono h1 (fun _ s2 h2 => ?_) fun _ _ z => z)
    refine seg_bind_wrap (wpAny_mono h2 (fun _ s3 h3 => ?_) fun _ _ z => z)
    rw [Sem.bind_eq_wrap', Sem.wrap_wrap]
    exact Eq.mpr (congrArg (fun t => Seg (model prog w) A R Y n s0 (.forLoop tg it body [] env) t fs s3) (Sem.wrap_congr (execs body env) id id (fun f => by cases f <;> rfl) (fun e => rfl))) h3

/-- a for whose body may hand out: W by the turn, a measure, what is out -/
def tGFor (wi : TI) (g : TG) (tb : TGn) : TGn := fun D ys σ H => wi σ H fun J H1 => ∃ W : Nat → Nat → List V → L2.St → Hp → Prop, (∃ m, W 0 m ys σ H1) ∧ ∀ i m ys σ H, W i m ys σ H →
  (J.stop i H ∧ D.nx ys σ H) ∨ (J.go i H ∧ ∃ N : List V → L2.St → Hp → Prop, (∀ ys' σ' H', N ys' σ' H' → ∃ m', m' < m ∧ W (i + 1) m' ys' σ' H') ∧ ∀ x H', J.yld i H x H' → g x σ H' fun σ2 H2 => tb { D with nx := N, ct := N, bk := D.nx } ys σ2 H2)
theorem gs_for {tg iter : Expr} {body : List Stmt} {wi : TI} {g : TG} {tb : TGn} (hp : PassesOwn (model X.prog X.w) X.A X.env X.xe) (hc : X.calm = true) (hi : PI X tg iter wi) (hg : PG X tg g) (hb : GSs X body tb)
    (hs : ∀ x, foldedSetIterable iter X.env x = pure x := by intro _; rfl) : GS X (.For tg iter body [] pos) (tGFor wi g tb) := by
  refine ⟨fun A S ip R n ys s0 c fs K J gd lv s σ H D gc hn k hI ht => ?_⟩
  rw [exec_For]
  refine seg_bind_wrap (wpAny_standAt ?_)
  refine seg_bind_wrap ?_
  obtain ⟨acc, c0, r, I⟩ := hI
  rw [gc.over]
  refine wpAny_mono (hi.run _ s σ H _ I ht) (fun v s1 h1 => ?_) fun x s' hx => k.exc n s0 x s' hx
  refine seg_bind_wrap (wpAny_of_eq (hs v) ?_)
  refine seg_bind_wrap (wpAny_standAt ?_)
  refine seg_bind_wrap (wpAny_holding ?_)
  rw [gc.over]
  refine wpAny_mono h1 (fun itv s2 h2 => ?_) fun x s' hx => k.exc n s0 x s' hx
  obtain ⟨it, fp, tn, Jt, H2, e, I2, T, st2, f2, W, ⟨m0, w0⟩, turn⟩ := h2
  subst e
  refine seg_own fun p => ?_
  have gl := fun (kk : Result → Sem PySem.Fin) => gc_loop (k := kk) (c' := .forLoop tg (.ref it) body [] X.env) (l := lv []) (kp := []) (p := p) gc rfl rfl
  -- the iterator's own objects: none of them is the consumer's list
  have fS : ∀ b ∈ fp, b ≠ S := fun b hb z => by
    obtain ⟨_, _, _, _, _, f5⟩ := f2 b hb
    exact f5 (S, lstObj acc c0) (List.mem_append_right _ List.mem_cons_self) z.symm
  have fix : ∀ {acc' : Array Value} {c1 : Nat} {H' : Hp}, (∀ b ∈ fp, H' b = none) → ∀ b ∈ fp, FpOk X ((S, lstObj acc' c1) :: ip) H' b := fun {acc' c1 H'} hn' b hb => by
    obtain ⟨_, f1, f2', f3, f4, f5⟩ := f2 b hb
    refine ⟨hn' b hb, f1, f2', f3, f4, fun q hq => ?_⟩
    rcases List.mem_append.mp hq with hq | hq
    · exact f5 q (List.mem_append_left _ hq)
    · rcases List.mem_cons.mp hq with hq | hq
      · rw [hq]; exact (fS b hb).symm
      · exact f5 q (List.mem_append_right _ (List.mem_cons_of_mem _ hq))
  have loop : ∀ (m i n : Nat) (ys : List V) (s0 s : Shared) (σ : L2.St) (H : Hp), n + ys.length = sizeLine → W i m ys σ H → tn i s.heap → (∀ b ∈ fp, H b = none) → GI X S ip ys σ H s →
      Seg (model X.prog X.w) A R (GY X S) n s0 (.forLoop tg (.ref it) body [] X.env) ((model X.prog X.w).den (.forLoop tg (.ref it) body [] X.env))
        (.ret (fun r => ((match r with | .ok f => (.pure f : Sem Flow) | .error e => .raise e).onRaise (cameBack X.env)).wrap K J gd lv) none (gd false) (lv []) c p [] :: fs) s := by
    intro m
    induction m using Nat.strongRecOn with
    | ind m ih =>
      intro i n ys s0 s σ H hn w stn frn hI
      have ee : ∀ (n : Nat) (s0 : Shared) (x : Value) (s' : Shared), X.xe x s' → Seg (model X.prog X.w) A R (GY X S) n s0 (.forLoop tg (.ref it) body [] X.env)
          ((do noteFrame x X.env; theTreesLotGoes x : Sem Unit).wrap (fun _ => .raise x) .raise id id)
          (.ret (fun r => ((match r with | .ok f => (.pure f : Sem Flow) | .error e => .raise e).onRaise (cameBack X.env)).wrap K J gd lv) none (gd false) (lv []) c p [] :: fs) s' := fun n s0 x s' hx => by
        refine seg_wrap ?_
        rw [(gl _).over]
        refine wpAny_bind (wpAny_mono (hp x s' hx) (fun _ s'' hcb => wpAny_theTreesLotGoes ?_) fun y s'' hcb => ?_)
        · exact seg_leaf (.error x) (seg_cameBack gc k hcb)
        · exact seg_leaf (.error y) (seg_cameBack gc k hcb)
      refine seg_forTurn ?_
      rw [(gl _).over]
      obtain ⟨acc, cc, r, I⟩ := hI
      rcases turn i m ys σ H w with ⟨stop, qn⟩ | ⟨go, N, hN, step⟩
      · refine wpAny_mono (T.done X rfl rfl rfl hc i _ s σ H X.xe I (fix frn) stn stop) (fun r s4 hr => ?_) fun x s' hx => ee n s0 x s' hx
        obtain ⟨hr, I4⟩ := hr
        subst hr
        refine seg_again rfl ?_
        show Seg _ _ _ _ _ _ _ (.pure (.done .next)) _ _
        exact seg_leaf (.ok .next) (k.ok n ys s0 s4 .next hn ⟨σ, H, ⟨acc, cc, r, I4⟩, qn⟩)
      · refine wpAny_mono (T.item X rfl rfl rfl hc i _ s σ H X.xe I (fix frn) stn go) (fun rr s4 h4 => ?_) fun x s' hx => ee n s0 x s' hx
        obtain ⟨u, hr, h4⟩ := h4
        subst hr
        refine wpAny_mono h4 (fun _ s5 h5 => ?_) fun x s' hx => ee n s0 x s' hx
        obtain ⟨x, H5, I5, r5, y5, st5, fr5⟩ := h5
        have I5' := I5.pinned (fix fr5) (T.obj _ _ st5)
        refine wpAny_mono (hg.run _ s5 σ H5 x u _ I5' r5 (step x H5 y5)) (fun _ s6 h6 => ?_) fun x s' hx => ee n s0 x s' hx
        obtain ⟨σ6, H6, I6, q6⟩ := h6
        have gl' : ∀ kk : Result → Sem PySem.Fin, GC X S (ip ++ pinsAt fp s5.heap) A (.forLoop tg (.ref it) body [] X.env) (.ret kk none (gd false) (lv []) c p [] :: fs) id := fun kk =>
          ⟨(gl kk).pn, fun q hq => (List.mem_append.mp hq).elim ((gl kk).ip q) fun z => fS q.1 (of_pinsAt z).1, (gl kk).apart, (gl kk).over, (gl kk).split, (gl kk).guard, rfl⟩
        have down : ∀ {ys' : List V} {σ' : L2.St} {H' : Hp} {s' : Shared}, GI X S (ip ++ pinsAt fp s5.heap) ys' σ' H' s' → GI X S ip ys' σ' H' s' ∧ tn (i + 1) s'.heap ∧ ∀ b ∈ fp, H' b = none := fun {ys' σ' H' s'} hG => by
          obtain ⟨acc', c', r', I'⟩ := hG
          have I2' : Inv X (((S, lstObj acc' c') :: ip) ++ pinsAt fp s5.heap) σ' H' s' := I'
          have at_ : ∀ b ∈ fp, ∀ o, s5.heap.get? b = some o → (s'.heap.get? b = some o ∧ H' b = none) := fun b hb o e => by
            have z := I2'.pin (b, o) (List.mem_append_right _ (List.mem_append_right _ (mem_pinsAt hb e)))
            exact ⟨z.1, z.2.1⟩
          refine ⟨⟨acc', c', r', I2'.unpinned⟩, T.keep _ _ _ st5 fun b hb o e => (at_ b hb o e).1, fun b hb => ?_⟩
          obtain ⟨o, e, _⟩ := T.obj _ _ st5 b hb
          exact (at_ b hb o e).2
        refine hb.run A S (ip ++ pinsAt fp s5.heap) R n ys s0 _ _ _ _ id id s6 σ6 H6 { D with nx := N, ct := N, bk := D.nx } (gl' _) hn ⟨fun n' ys' s0' s7 f hn' hs => ?_, fun n' s0' x s7 hx => ee n' s0' x s7 hx⟩ ⟨acc, cc, r, I6⟩ q6
        cases f with
        | next =>
          obtain ⟨σ7, H7, I7, n7⟩ := hs
          obtain ⟨m', hm, w7⟩ := hN ys' σ7 H7 n7
          obtain ⟨d1, d2, d3⟩ := down I7
          exact seg_again rfl (ih m' hm (i + 1) n' ys' s0' s7 σ7 H7 hn' w7 d2 d3 d1)
        | cont =>
          obtain ⟨σ7, H7, I7, n7⟩ := hs
          obtain ⟨m', hm, w7⟩ := hN ys' σ7 H7 n7
          obtain ⟨d1, d2, d3⟩ := down I7
          exact seg_again rfl (ih m' hm (i + 1) n' ys' s0' s7 σ7 H7 hn' w7 d2 d3 d1)
        | brk =>
          obtain ⟨σ7, H7, I7, q7⟩ := hs
          exact seg_leaf (.ok .next) (k.ok n' ys' s0' s7 .next hn' ⟨σ7, H7, (down I7).1, q7⟩)
        | ret v =>
          obtain ⟨x7, σ7, H7, I7, r7, q7⟩ := hs
          exact seg_leaf (.ok (.ret v)) (k.ok n' ys' s0' s7 (.ret v) hn' ⟨x7, σ7, H7, (down I7).1, r7, q7⟩)
  exact loop m0 0 n ys s0 s2 σ H2 hn w0 st2 (fun b hb => (f2 b hb).1) ⟨acc, c0, r, I2⟩
/-- one statement alone -/
theorem gss_one {st : Stmt} {t : TGn} (a : GS X st t) : GSs X [st] t := by
  refine ⟨fun A S ip R n ys s0 c fs K J gd lv s σ H D g hn k hI ht => ?_⟩
  refine seg_execs_cons ?_
  refine a.run A S ip R n ys s0 c fs _ J gd lv s σ H D g hn ⟨fun n' ys' s0' s' f hn' hs => ?_, k.exc⟩ hI ht
  cases f with
  | next => exact seg_execs_nil (k.ok n' ys' s0' s' .next hn' hs)
  | brk => exact k.ok n' ys' s0' s' .brk hn' hs
  | cont => exact k.ok n' ys' s0' s' .cont hn' hs
  | ret u => exact k.ok n' ys' s0' s' (.ret u) hn' hs
end
end GX
end
section
set_option Elab.async false
set_option linter.all false
set_option maxRecDepth 100000
set_option maxHeartbeats 4000000
/-! DS: iterators, comprehensions, statements and generator bodies over plain data. -/
namespace DL
open PySem L2 GX

/-- the world of a body: G0 and B as they were at its entry -/
structure Wd (G0 B G H : Hp) : Prop where
  g0 : Same G0 G
  gh : Same G H
  bh : Same B H
  fr : ∀ b o, G b = some o → G0 b = some o ∨ B b = none
section
variable {G0 B G G1 G2 H H1 H2 H' : Hp} {σ : L2.St} {δ : List Sl}
theorem Wd.refl (g : Same G H) (b : Same B H) : Wd G B G H := ⟨Same.refl G, g, b, fun _ _ e => .inl e⟩
theorem Wd.step (W : Wd G0 B G H) (s : Same H H') : Wd G0 B (ext G H H') H' := by
  refine ⟨W.g0.trans ext_l, ext_r W.gh s, W.bh.trans s, fun b o e => ?_⟩
  unfold ext at e
  cases q : G b with
  | some u =>
    rw [q] at e
    have e' : u = o := Option.some.inj e
    subst e'
    exact W.fr b u q
  | none =>
    rw [q] at e
    cases z : H b with
    | none => exact .inr (W.bh.free z)
    | some u =>
      rw [z] at e
      cases e
theorem Wd.trans (W : Wd G0 B G1 H1) (W' : Wd G1 B G2 H2) : Wd G0 B G2 H2 :=
  ⟨W.g0.trans W'.g0, W'.gh, W'.bh, fun b o e => (W'.fr b o e).elim (W.fr b o) .inr⟩
theorem Wd.mut {a : Addr} {o : HO} (W : Wd G0 B G H) (g : G a = none) (b : B a = none) : Wd G0 B G (upd H a o) :=
  ⟨W.g0, same_mut W.gh g, same_mut W.bh b, W.fr⟩
theorem Wd.fin (W : Wd G0 B G H) : Same G (ext G0 B H) := fun b o e => by
  rcases W.fr b o e with h | h
  · exact ext_l _ _ h
  · cases q : G0 b with
    | some u =>
      have := W.g0 _ _ q
      rw [e] at this
      cases this
      exact ext_l _ _ q
    | none => exact ext_new h q (W.gh _ _ e)
/-- the pure part of an inner body is the outer one's -/
theorem Wd.outer (W : Wd G0 B G1 H1) (gh : Same G1 H) : Same (ext G1 B H) (ext G0 B H) := fun b o e => by
  unfold ext at e
  cases q : G1 b with
  | some u =>
    rw [q] at e
    have e' : u = o := Option.some.inj e
    subst e'
    rcases W.fr b u q with h | h
    · exact ext_l _ _ h
    · cases z : G0 b with
      | some y =>
        have := W.g0 _ _ z
        rw [q] at this
        cases this
        exact ext_l _ _ z
      | none => exact ext_new h z (gh _ _ q)
  | none =>
    rw [q] at e
    have q0 : G0 b = none := W.g0.free q
    unfold ext
    rw [q0]
    exact e
/-- what a base's objects are told stays -/
theorem ER.go (E : ER B G1 H1 σ δ) (W : Wd G1 H1 G H) : ER B G H σ δ := by
  refine ⟨E.len, fun i o s h1 h2 => ?_, E.ne⟩
  have z := E.at_ i o s h1 h2
  cases s with
  | any => trivial
  | pu d =>
    obtain ⟨v, q, r⟩ := z
    exact ⟨v, q, r.same W.g0⟩
  | ow ds =>
    obtain ⟨a, xs, q, h, g, b, r⟩ := z
    refine ⟨a, xs, q, W.bh _ _ h, ?_, b, r.same W.g0⟩
    cases y : G a with
    | none => rfl
    | some u =>
      rcases W.fr a u y with z | z
      · rw [g] at z; cases z
      · rw [h] at z; cases z

/-! ### what is walked -/
def JA (J : It) (G : Hp) (ds : List PyData) : Prop := ∀ (i : Nat) (H : Hp), Same G H → (∀ d, ds[i]? = some d → J.go i H ∧ ∀ x H', J.yld i H x H' → Same H H' ∧ Dat (ext G H H') x d) ∧ (ds.length ≤ i → J.stop i H)
def IA (wi : TI) (δ : List Sl) (ds : List PyData) : Prop := ∀ (B G H : Hp) (σ : L2.St), Same G H → Same B H → ER B G H σ δ → ∀ R : It → Hp → Prop, (∀ J H', Same H H' → JA J (ext G H H') ds → R J H') → wi σ H R
section
variable {K : PySem.W.Frag} {te : TE} {ta : TA} {ds : List PyData}
theorem ja_list {a : Addr} {xs : List V} (h : G a = some (.lst xs)) (r : Dats G xs ds) : JA (Itl K a) G ds := fun i H s => by
  refine ⟨fun d hd => ?_, fun hl => ?_⟩
  · obtain ⟨v, hv, rv⟩ := r.get hd
    refine ⟨⟨xs, v, SqL.of (s _ _ h), hv⟩, fun x H' y => ?_⟩
    obtain ⟨e, y⟩ := y
    subst e
    refine ⟨Same.refl _, ?_⟩
    have := y xs (SqL.of (s _ _ h))
    rw [hv] at this
    cases this
    exact rv.same ext_l
  · exact ⟨xs, SqL.of (s _ _ h), by rw [r.len]; exact hl⟩
theorem ja_tup {a : Addr} {xs : List V} (h : G a = some (.tup xs)) (r : Dats G xs ds) : JA (Itt K a) G ds := fun i H s => by
  refine ⟨fun d hd => ?_, fun hl => ?_⟩
  · obtain ⟨v, hv, rv⟩ := r.get hd
    refine ⟨⟨xs, v, SqT.of (s _ _ h), hv⟩, fun x H' y => ?_⟩
    obtain ⟨e, y⟩ := y
    subst e
    refine ⟨Same.refl _, ?_⟩
    have := y xs (SqT.of (s _ _ h))
    rw [hv] at this
    cases this
    exact rv.same ext_l
  · exact ⟨xs, SqT.of (s _ _ h), by rw [r.len]; exact hl⟩
def rangeD (lo : Int) (n : Nat) : List PyData := (List.range n).map fun (i : Nat) => .int (lo + (i : Int))
theorem rangeD_len (lo : Int) (n : Nat) : (rangeD lo n).length = n := by unfold rangeD; rw [List.length_map, List.length_range]
theorem rangeD_get {lo : Int} {n i : Nat} {d : PyData} (h : (rangeD lo n)[i]? = some d) : i < n ∧ d = .int (lo + (i : Int)) := by
  unfold rangeD at h
  rw [List.getElem?_map] at h
  by_cases hi : i < n
  · rw [List.getElem?_range hi] at h
    exact ⟨hi, (Option.some.inj h).symm⟩
  · rw [List.getElem?_eq_none (by rw [List.length_range]; omega)] at h
    cases h
theorem ja_range {lo : Int} {n : Nat} : JA (Itr lo n) G (rangeD lo n) := fun i H s => by
  refine ⟨fun d hd => ?_, fun hl => ?_⟩
  · obtain ⟨hi, rfl⟩ := rangeD_get hd
    refine ⟨hi, fun x H' y => ?_⟩
    obtain ⟨e, y⟩ := y
    subst e y
    exact ⟨Same.refl _, .int _⟩
  · rw [rangeD_len] at hl
    exact hl
def enumD : Nat → List PyData → List PyData
  | _, [] => []
  | i, d :: ds => .tuple [.int (i : Int), d] :: enumD (i + 1) ds
theorem enumD_get : ∀ {ds : List PyData} {k i : Nat} {d : PyData}, (enumD k ds)[i]? = some d → ∃ e, ds[i]? = some e ∧ d = .tuple [.int ((k + i : Nat) : Int), e]
  | [], _, _, _, h => by simp [enumD] at h
  | e :: ds, k, 0, d, h => by
    simp only [enumD, List.getElem?_cons_zero, Option.some.injEq] at h
    exact ⟨e, rfl, h.symm⟩
  | e :: ds, k, i + 1, d, h => by
    obtain ⟨e', h1, h2⟩ := enumD_get (ds := ds) (k := k + 1) (i := i) (d := d) (by simpa [enumD] using h)
    refine ⟨e', by simpa using h1, ?_⟩
    rw [h2, Nat.add_assoc, Nat.add_comm 1 i]
theorem enumD_len : ∀ (k : Nat) (ds : List PyData), (enumD k ds).length = ds.length
  | _, [] => rfl
  | k, _ :: ds => congrArg Nat.succ (enumD_len (k + 1) ds)
theorem ja_enum {a : Addr} {xs : List V} (h : G a = some (.lst xs)) (r : Dats G xs ds) : JA (Ite K a) G (enumD 0 ds) := fun i H s => by
  refine ⟨fun d hd => ?_, fun hl => ?_⟩
  · obtain ⟨e, he, rfl⟩ := enumD_get hd
    obtain ⟨v, hv, rv⟩ := r.get he
    refine ⟨⟨xs, v, SqL.of (s _ _ h), hv⟩, fun x H' y => ?_⟩
    obtain ⟨T, u, rfl, hT, rfl, y⟩ := y
    have := y xs (SqL.of (s _ _ h))
    rw [hv] at this
    cases this
    refine ⟨same_new hT, .tup (ext_new hT (s.free hT) upd_same) (.cons ?_ (.cons (rv.same ext_l) .nil))⟩
    rw [Nat.zero_add]
    exact .int _
  · rw [enumD_len] at hl
    exact ⟨xs, SqL.of (s _ _ h), by rw [r.len]; exact hl⟩
theorem ia_list (h : EvE te δ (.list ds)) : IA (iList K te) δ ds := fun B G H σ e1 e2 E R q => h B G H σ e1 e2 E _ fun v H' s r => by
  obtain ⟨a, xs, rfl, g, r'⟩ := r.inLst
  exact ⟨a, rfl, ⟨xs, SqL.of (ext_r e1 s _ _ g)⟩, q _ H' s (ja_list g r')⟩
theorem ia_tup (h : EvE te δ (.tuple ds)) : IA (iTup K te) δ ds := fun B G H σ e1 e2 E R q => h B G H σ e1 e2 E _ fun v H' s r => by
  obtain ⟨a, xs, rfl, g, r'⟩ := r.inTup
  exact ⟨a, rfl, ⟨xs, SqT.of (ext_r e1 s _ _ g)⟩, q _ H' s (ja_tup g r')⟩
theorem ia_range1 {n : Nat} (h : EvA ta δ [.int (n : Int)]) (hn : n ≤ 1000000) : IA (iRng1 ta) δ (rangeD 0 n) := fun B G H σ e1 e2 E R q => h B G H σ e1 e2 E _ fun vs H' s r => by
  cases r with
  | cons h r =>
    cases r
    refine ⟨n, by rw [h.eqInt], by omega, by omega, q _ H' s ?_⟩
    rw [Int.toNat_natCast]
    exact ja_range
theorem ia_range2 {lo hi : Nat} (h : EvA ta δ [.int (lo : Int), .int (hi : Int)]) (hl : lo ≤ 1000000) (hn : hi ≤ 1000000) : IA (iRng2 ta) δ (rangeD lo (hi - lo)) := fun B G H σ e1 e2 E R q => h B G H σ e1 e2 E _ fun vs H' s r => by
  cases r with
  | cons h r =>
    cases r with
    | cons h' r =>
      cases r
      refine ⟨lo, hi, by rw [h.eqInt, h'.eqInt], ⟨by omega, by omega, by omega, by omega⟩, q _ H' s ?_⟩
      have e : ((hi : Int) - (lo : Int)).toNat = hi - lo := by omega
      rw [e]
      exact ja_range
theorem ia_enum (h : EvE te δ (.list ds)) : IA (iEnum K (tCons te tNil)) δ (enumD 0 ds) := fun B G H σ e1 e2 E R q => h B G H σ e1 e2 E _ fun v H' s r => by
  obtain ⟨a, xs, rfl, g, r'⟩ := r.inLst
  exact ⟨a, xs, rfl, SqL.of (ext_r e1 s _ _ g), q _ H' s (ja_enum g r')⟩
end

/-! ### targets -/
def GA (g : TG) (δ : List Sl) (d : PyData) (δ' : List Sl) : Prop := ∀ (B G H : Hp) (σ : L2.St) (x : V) (Q : L2.St → Hp → Prop), Same G H → Same B H → ER B G H σ δ → Dat G x d → (∀ σ', ER B G H σ' δ' → Q σ' H) → g x σ H Q
theorem ga_name {i : Nat} {d : PyData} : GA (gName i) δ d (δ.set i (.pu d)) := fun B G H σ x Q e1 e2 E r q => q _ (E.set r)
theorem ga_pair {K : PySem.W.Frag} {i j : Nat} {d1 d2 : PyData} : GA (gTup K 2 (gCons (gName i) (gCons (gName j) gNil))) δ (.tuple [d1, d2]) ((δ.set i (.pu d1)).set j (.pu d2)) := fun B G H σ x Q e1 e2 E r q => by
  obtain ⟨a, xs, rfl, g, r'⟩ := r.inTup
  cases r' with
  | cons h1 r' =>
    cases r' with
    | cons h2 r' =>
      cases r'
      exact ⟨a, _, rfl, SqT.of (e1 _ _ g), rfl, _, _, rfl, _, _, rfl, rfl, q _ ((E.set h1).set h2)⟩
/-- .. within a comprehension: only the block's names are stored -/
def GAw (g : TG) (vs : List Nat) (δ : List Sl) (d : PyData) (δ' : List Sl) : Prop := ∀ (B G H : Hp) (σ : L2.St) (x : V) (Q : L2.St → Hp → Prop), Same G H → Same B H → ER B G H σ δ → Dat G x d → (∀ σ', ER B G H σ' δ' → wipe σ' vs = wipe σ vs → Q σ' H) → g x σ H Q
theorem wipe_set {σ : L2.St} {i : Nat} {o : Option V} : ∀ {vs : List Nat}, i ∈ vs → wipe (σ.set i o) vs = wipe σ vs
  | v :: vs, h => by
    unfold wipe
    by_cases hv : i ∈ vs
    · rw [wipe_set hv]
    · have e : v = i := by
        rcases List.mem_cons.mp h with h | h
        · exact h.symm
        · exact absurd h hv
      subst e
      have comm : ∀ {vs : List Nat}, v ∉ vs → wipe (σ.set v o) vs = (wipe σ vs).set v o := by
        intro vs
        induction vs with
        | nil => intro _; rfl
        | cons u us ih =>
          intro hn
          have h1 : v ≠ u := fun e => hn (e ▸ List.mem_cons_self)
          have h2 : v ∉ us := fun z => hn (List.mem_cons_of_mem _ z)
          show (wipe (σ.set v o) us).set u none = ((wipe σ us).set u none).set v o
          rw [ih h2, List.set_comm _ _ h1]
      rw [comm hv, List.set_set]
theorem wipe_wipe {σ : L2.St} {vs : List Nat} : wipe (wipe σ vs) vs = wipe σ vs := by
  have key : ∀ us : List Nat, (∀ u ∈ us, u ∈ vs) → wipe (wipe σ us) vs = wipe σ vs := by
    intro us
    induction us with
    | nil => intro _; rfl
    | cons u us ih =>
      intro h
      show wipe ((wipe σ us).set u none) vs = wipe σ vs
      rw [wipe_set (h u List.mem_cons_self), ih fun x hx => h x (List.mem_cons_of_mem _ hx)]
  exact key vs fun _ h => h
theorem gaw_name {i : Nat} {vs : List Nat} {d : PyData} (hi : i ∈ vs := by decide) : GAw (gName i) vs δ d (δ.set i (.pu d)) := fun B G H σ x Q e1 e2 E r q => q _ (E.set r) (wipe_set hi)
theorem gaw_pair {K : PySem.W.Frag} {i j : Nat} {vs : List Nat} {d1 d2 : PyData} (hi : i ∈ vs := by decide) (hj : j ∈ vs := by decide) : GAw (gTup K 2 (gCons (gName i) (gCons (gName j) gNil))) vs δ (.tuple [d1, d2]) ((δ.set i (.pu d1)).set j (.pu d2)) := fun B G H σ x Q e1 e2 E r q => by
  obtain ⟨a, xs, rfl, g, r'⟩ := r.inTup
  cases r' with
  | cons h1 r' =>
    cases r' with
    | cons h2 r' =>
      cases r'
      exact ⟨a, _, rfl, SqT.of (e1 _ _ g), rfl, _, _, rfl, _, _, rfl, rfl, q _ ((E.set h1).set h2) ((wipe_set hj).trans (wipe_set hi))⟩

/-! ### comprehensions -/
theorem take_next {α : Type} {l : List α} {i : Nat} {x : α} (h : l[i]? = some x) : l.take (i + 1) = l.take i ++ [x] := by
  rw [List.take_add_one, h]; rfl
theorem evt_yes : EvT tYes δ true := fun B G H σ e1 e2 E Q q => q H (Same.refl H)
theorem eve_lc {wi : TI} {g : TG} {tt : TT} {te : TE} {vs : List Nat} {ds : List PyData} (p : PyData → Bool) (f : PyData → PyData) (hi : IA wi δ ds) (hz : ds.length ≤ 100000)
    (hs : ∀ (i : Nat) (d : PyData), ds[i]? = some d → ∃ δ2, GAw g vs (wipeA δ vs) d δ2 ∧ EvT tt δ2 (p d) ∧ (p d = true → EvE te δ2 (f d))) : EvE (tLc wi g tt te vs) δ (.list ((ds.filter p).map f)) := fun B G H σ e1 e2 E Q q =>
  hi B G H σ e1 e2 E _ fun J H1 s1 ja => by
    intro Dd hD
    have eg1 := ext_r e1 s1
    have E1 := E.step s1
    have GD : ext G H H1 Dd = none := eg1.free hD
    refine ⟨fun i m H2 => m + i = ds.length ∧ ∃ G' xs, Wd (ext G H H1) H1 G' H2 ∧ H2 Dd = some (.lst xs) ∧ G' Dd = none ∧ Dats G' xs (((ds.take i).filter p).map f),
      ⟨ds.length, by omega, ext G H H1, [], (Wd.refl eg1 (Same.refl H1)).mut GD hD, upd_same, GD, .nil⟩, fun i m H2 hw => ?_⟩
    obtain ⟨hm, G', xs, W, hDd, gD, r⟩ := hw
    by_cases hlt : i < ds.length
    · have hd : ds[i]? = some ds[i] := List.getElem?_eq_getElem hlt
      obtain ⟨go, yl⟩ := (ja i H2 (W.g0.trans W.gh)).1 _ hd
      refine .inr ⟨go, fun H3 => ∃ m', m' < m ∧ m' + (i + 1) = ds.length ∧ ∃ G' xs, Wd (ext G H H1) H1 G' H3 ∧ H3 Dd = some (.lst xs) ∧ G' Dd = none ∧ Dats G' xs (((ds.take (i + 1)).filter p).map f),
        fun H3 ⟨m', h1, h2⟩ => ⟨m', h1, h2⟩, fun x H3 y => ?_⟩
      obtain ⟨s3, rx⟩ := yl x H3 y
      have W3 := W.step s3
      have rx3 : Dat (ext G' H2 H3) x ds[i] := rx.same (ext_mono W.g0 W.gh)
      have E3 : ER B (ext G' H2 H3) H3 (wipe σ vs) (wipeA δ vs) := (E1.wipe vs).go W3
      have b3 : Same B H3 := (e2.trans s1).trans W3.bh
      obtain ⟨δ2, hg, ht, he⟩ := hs i _ hd
      refine hg B _ H3 _ x _ W3.gh b3 E3 rx3 fun σ2 E4 hw2 => ⟨hw2.trans wipe_wipe, ?_⟩
      refine ht B _ H3 σ2 W3.gh b3 E4 _ fun H4 s4 => ?_
      have W4 := W3.step s4
      have gD3 : ext G' H2 H3 Dd = none := ext_old hDd gD
      have hD3 : H3 Dd = some (.lst xs) := s3 _ _ hDd
      have gD4 : ext (ext G' H2 H3) H3 H4 Dd = none := ext_old hD3 gD3
      cases hp : p ds[i] with
      | true =>
        rw [if_pos rfl]
        refine he hp B _ H4 σ2 W4.gh (b3.trans s4) (E4.step s4) _ fun v H5 s5 rv => ?_
        have W5 := W4.step s5
        have hD5 : H5 Dd = some (.lst xs) := s5 _ _ (s4 _ _ hD3)
        have gD5 : ext (ext (ext G' H2 H3) H3 H4) H4 H5 Dd = none := ext_old (s4 _ _ hD3) gD4
        refine ⟨xs, hD5, ?_, m - 1, by omega, by omega, _, xs ++ [v], W5.mut gD5 hD, upd_same, gD5, ?_⟩
        · rw [r.len, List.length_map]
          refine Nat.lt_of_le_of_lt (List.length_filter_le _ _) ?_
          rw [List.length_take]
          exact Nat.lt_of_le_of_lt (Nat.le_trans (Nat.min_le_right _ _) hz) (by decide)
        · rw [take_next hd, List.filter_append, List.map_append]
          refine (r.same (((ext_l).trans ext_l).trans ext_l)).app ?_
          rw [List.filter_cons, if_pos hp]
          exact .one rv
      | false =>
        rw [if_neg Bool.false_ne_true]
        refine ⟨m - 1, by omega, by omega, _, xs, W4, s4 _ _ hD3, gD4, ?_⟩
        rw [take_next hd, List.filter_append, List.map_append, List.filter_cons, if_neg (by rw [hp]; decide)]
        rw [List.filter_nil, List.map_nil, List.append_nil]
        exact r.same ((ext_l).trans ext_l)
    · have ei : i = ds.length := by omega
      subst ei
      rw [List.take_length] at r
      refine .inl ⟨(ja _ H2 (W.g0.trans W.gh)).2 (Nat.le_refl _), q _ H2 (s1.trans W.bh) (.lst (xs := xs) ?_ ?_)⟩
      · exact ext_new (s1.free hD) ((e1.trans s1).free hD) hDd
      · refine r.same fun b o e => ?_
        have := W.fin b o e
        rw [ext_ext s1 W.bh] at this
        exact this
theorem ER.aside {B : Hp} (E : ER B G H σ δ) {p : Addr} (h : H p = none) (o : HO) : ER (upd B p o) G H σ δ := by
  refine ⟨E.len, fun i u s h1 h2 => ?_, E.ne⟩
  have z := E.at_ i u s h1 h2
  cases s with
  | any => trivial
  | pu d => exact z
  | ow ds =>
    obtain ⟨a, xs, q, hh, g, b, r⟩ := z
    exact ⟨a, xs, q, hh, g, by rw [upd_ne (ne_of_none hh h)]; exact b, r⟩
def hid (H : Hp) (p : Addr) : Hp := fun b => if b = p then none else H b
theorem hid_ne {H : Hp} {b p : Addr} (h : b ≠ p) : hid H p b = H b := if_neg h
theorem hid_same {H : Hp} {p : Addr} : hid H p p = none := if_pos rfl
theorem hid_sub {H : Hp} {p : Addr} : Same (hid H p) H := fun b o e => by
  by_cases hb : b = p
  · rw [hb, hid_same] at e; cases e
  · rw [hid_ne hb] at e; exact e
theorem ER.goHid {B G H G' H' : Hp} {p : Addr} {o o' : HO} (E : ER (upd B p o) G H σ δ) (W : Wd G (hid H p) G' H') : ER (upd B p o') G' H' σ δ := by
  refine ⟨E.len, fun i u s h1 h2 => ?_, E.ne⟩
  have z := E.at_ i u s h1 h2
  cases s with
  | any => trivial
  | pu d =>
    obtain ⟨v, q, r⟩ := z
    exact ⟨v, q, r.same W.g0⟩
  | ow fs =>
    obtain ⟨a, ys, q, h, g, b, r⟩ := z
    have hne : a ≠ p := fun e => by rw [e, upd_same] at b; cases b
    have hB : hid H p a = some (.lst ys) := by rw [hid_ne hne]; exact h
    refine ⟨a, ys, q, W.bh _ _ hB, ?_, by rw [upd_ne hne] at b ⊢; exact b, r.same W.g0⟩
    cases y : G' a with
    | none => rfl
    | some u =>
      rcases W.fr a u y with z | z
      · rw [g] at z; cases z
      · rw [hB] at z; cases z
theorem same_upd {B H : Hp} {p : Addr} {o : HO} (e : Same B H) (h : H p = some o) : Same (upd B p o) H := fun b u q => by
  by_cases hb : b = p
  · subst hb; rw [upd_same] at q; cases q; exact h
  · rw [upd_ne hb] at q; exact e _ _ q
/-- two clauses -/
theorem eve_lc2 {wi wi1 : TI} {g g1 : TG} {tt tt1 : TT} {te : TE} {vs vs1 : List Nat} {ds : List PyData} (es : PyData → List PyData) (p : PyData → PyData → Bool) (f : PyData → PyData → PyData) (hi : IA wi δ ds) (hz : ((ds.flatMap es)).length ≤ 100000)
    (hs : ∀ (i : Nat) (d : PyData), ds[i]? = some d → ∃ δ2, GAw g vs (wipeA δ vs) d δ2 ∧ EvT tt δ2 true ∧ IA wi1 δ2 (es d) ∧
      ∀ (j : Nat) (e : PyData), (es d)[j]? = some e → ∃ δ3, GAw g1 vs1 (wipeA δ2 vs1) e δ3 ∧ EvT tt1 δ3 (p d e) ∧ (p d e = true → EvE te δ3 (f d e))) :
    EvE (tLc2 wi g tt wi1 g1 tt1 te vs vs1) δ (.list (ds.flatMap fun d => ((es d).filter (p d)).map (f d))) := fun B G H σ e1 e2 E Q q =>
  hi B G H σ e1 e2 E _ fun J H1 s1 ja => by
    intro Dd hD
    have eg1 := ext_r e1 s1
    have E1 := E.step s1
    have GD : ext G H H1 Dd = none := eg1.free hD
    have le1 : ∀ l : List PyData, (l.flatMap fun d => ((es d).filter (p d)).map (f d)).length ≤ (l.flatMap es).length := by
      intro l
      induction l with
      | nil => exact Nat.le_refl _
      | cons x l ih =>
        rw [List.flatMap_cons, List.flatMap_cons, List.length_append, List.length_append, List.length_map]
        exact Nat.add_le_add (List.length_filter_le _ _) ih
    have cnt : ∀ (i : Nat) (d : PyData), ds[i]? = some d → ((ds.take i).flatMap es).length + (es d).length ≤ (ds.flatMap es).length := by
      intro i d hd
      obtain ⟨hi', rfl⟩ := List.getElem?_eq_some_iff.mp hd
      have sp : ds = ds.take i ++ (ds[i] :: ds.drop (i + 1)) := by rw [List.getElem_cons_drop, List.take_append_drop]
      conv => rhs; rw [sp]
      rw [List.flatMap_append, List.flatMap_cons, List.length_append, List.length_append]
      omega
    refine ⟨fun i m H2 => m + i = ds.length ∧ ∃ G' xs, Wd (ext G H H1) H1 G' H2 ∧ H2 Dd = some (.lst xs) ∧ G' Dd = none ∧ Dats G' xs ((ds.take i).flatMap fun d => ((es d).filter (p d)).map (f d)),
      ⟨ds.length, by omega, ext G H H1, [], (Wd.refl eg1 (Same.refl H1)).mut GD hD, upd_same, GD, .nil⟩, fun i m H2 hw => ?_⟩
    obtain ⟨hm, G', xs, W, hDd, gD, r⟩ := hw
    by_cases hlt : i < ds.length
    · have hd : ds[i]? = some ds[i] := List.getElem?_eq_getElem hlt
      generalize ds[i] = d at hd
      obtain ⟨go, yl⟩ := (ja i H2 (W.g0.trans W.gh)).1 _ hd
      refine .inr ⟨go, fun H3 => ∃ m', m' < m ∧ m' + (i + 1) = ds.length ∧ ∃ G' xs, Wd (ext G H H1) H1 G' H3 ∧ H3 Dd = some (.lst xs) ∧ G' Dd = none ∧ Dats G' xs ((ds.take (i + 1)).flatMap fun d => ((es d).filter (p d)).map (f d)),
        fun H3 ⟨m', h1, h2⟩ => ⟨m', h1, h2⟩, fun x H3 y => ?_⟩
      obtain ⟨s3, rx⟩ := yl x H3 y
      have W3 := W.step s3
      have rx3 : Dat (ext G' H2 H3) x d := rx.same (ext_mono W.g0 W.gh)
      have gD3 : ext G' H2 H3 Dd = none := ext_old hDd gD
      have hD3 : H3 Dd = some (.lst xs) := s3 _ _ hDd
      have E3 : ER (upd B Dd (.lst xs)) (ext G' H2 H3) H3 (wipe σ vs) (wipeA δ vs) := ((E1.aside hD (.lst xs)).wipe vs).go W3
      have b3 : Same (upd B Dd (.lst xs)) H3 := same_upd ((e2.trans s1).trans W3.bh) hD3
      obtain ⟨δ2, hg, ht, hi1, hs1⟩ := hs i _ hd
      refine hg _ _ H3 _ x _ W3.gh b3 E3 rx3 fun σ2 E4 hw2 => ⟨hw2.trans wipe_wipe, ?_⟩
      refine ht _ _ H3 σ2 W3.gh b3 E4 _ fun H4 s4 => ?_
      rw [if_pos rfl]
      have W4 := W3.step s4
      have gD4 : ext (ext G' H2 H3) H3 H4 Dd = none := ext_old hD3 gD3
      have hD4 : H4 Dd = some (.lst xs) := s4 _ _ hD3
      refine hi1 _ _ H4 σ2 W4.gh (b3.trans s4) (E4.step s4) _ fun J1 H5 s5 ja1 => ?_
      have W5 := W4.step s5
      have E5 := (E4.step s4).step s5
      have gD5 : ext (ext (ext G' H2 H3) H3 H4) H4 H5 Dd = none := ext_old hD4 gD4
      have hD5 : H5 Dd = some (.lst xs) := s5 _ _ hD4
      have r5 : Dats (ext (ext (ext G' H2 H3) H3 H4) H4 H5) xs ((ds.take i).flatMap fun d => ((es d).filter (p d)).map (f d)) := r.same (((ext_l).trans ext_l).trans ext_l)
      have b5 : Same B H5 := (((e2.trans s1).trans W3.bh).trans s4).trans s5
      generalize ext (ext (ext G' H2 H3) H3 H4) H4 H5 = G5 at W5 E5 gD5 ja1 r5
      -- the inner clause: all but the new list stands as at H5
      refine ⟨fun j k H6 => k + j = (es d).length ∧ ∃ G6 xs6, Wd G5 (hid H5 Dd) G6 H6 ∧ H6 Dd = some (.lst xs6) ∧ G6 Dd = none ∧ Dats G6 xs6 (((ds.take i).flatMap fun d => ((es d).filter (p d)).map (f d)) ++ (((es d).take j).filter (p d)).map (f d)),
        ⟨(es d).length, by omega, G5, xs, Wd.refl W5.gh hid_sub, hD5, gD5, by simpa using r5⟩, fun j k H6 hw6 => ?_⟩
      obtain ⟨hk, G6, xs6, W6, hD6, gD6, r6⟩ := hw6
      have W56 : Wd (ext G H H1) H1 G6 H6 := by
        refine ⟨W5.g0.trans W6.g0, W6.gh, fun b o e => W6.bh b o ?_, fun b o e => ?_⟩
        · rw [hid_ne (ne_of_none e hD)]
          exact W5.bh _ _ e
        · rcases W6.fr b o e with z | z
          · exact W5.fr b o z
          · by_cases hb : b = Dd
            · rw [hb, gD6] at e; cases e
            · rw [hid_ne hb] at z
              exact .inr (W5.bh.free z)
      have b6 : Same (upd B Dd (.lst xs6)) H6 := same_upd ((e2.trans s1).trans W56.bh) hD6
      by_cases hlj : j < (es d).length
      · have he : (es d)[j]? = some (es d)[j] := List.getElem?_eq_getElem hlj
        generalize (es d)[j] = e at he
        obtain ⟨go1, yl1⟩ := (ja1 j H6 (W6.g0.trans W6.gh)).1 _ he
        refine .inr ⟨go1, fun H7 => ∃ k', k' < k ∧ k' + (j + 1) = (es d).length ∧ ∃ G6 xs6, Wd G5 (hid H5 Dd) G6 H7 ∧ H7 Dd = some (.lst xs6) ∧ G6 Dd = none ∧ Dats G6 xs6 (((ds.take i).flatMap fun d => ((es d).filter (p d)).map (f d)) ++ (((es d).take (j + 1)).filter (p d)).map (f d)),
          fun H7 ⟨k', h1, h2⟩ => ⟨k', h1, h2⟩, fun x1 H7 y1 => ?_⟩
        obtain ⟨s7, rx1⟩ := yl1 x1 H7 y1
        have W7 := W6.step s7
        have rx7 : Dat (ext G6 H6 H7) x1 e := rx1.same (ext_mono W6.g0 W6.gh)
        have hD7 : H7 Dd = some (.lst xs6) := s7 _ _ hD6
        have gD7 : ext G6 H6 H7 Dd = none := ext_old hD6 gD6
        have E7 : ER (upd B Dd (.lst xs6)) (ext G6 H6 H7) H7 (wipe σ2 vs1) (wipeA δ2 vs1) := ER.wipe (E5.goHid W7) vs1
        have b7 : Same (upd B Dd (.lst xs6)) H7 := b6.trans s7
        obtain ⟨δ3, hg1, ht1, he1⟩ := hs1 j _ he
        refine hg1 _ _ H7 _ x1 _ W7.gh b7 E7 rx7 fun σ3 E8 hw3 => ⟨hw3.trans wipe_wipe, ?_⟩
        refine ht1 _ _ H7 σ3 W7.gh b7 E8 _ fun H8 s8 => ?_
        have W8 := W7.step s8
        have hD8 : H8 Dd = some (.lst xs6) := s8 _ _ hD7
        have gD8 : ext (ext G6 H6 H7) H7 H8 Dd = none := ext_old hD7 gD7
        have r8 := r6.same ((ext_l (G := G6) (H := H6) (H' := H7)).trans (ext_l (H := H7) (H' := H8)))
        cases hp : p d e with
        | true =>
          rw [if_pos rfl]
          refine he1 hp _ _ H8 σ3 W8.gh (b7.trans s8) (E8.step s8) _ fun v H9 s9 rv => ?_
          have W9 := W8.step s9
          have hD9 : H9 Dd = some (.lst xs6) := s9 _ _ hD8
          have gD9 : ext (ext (ext G6 H6 H7) H7 H8) H8 H9 Dd = none := ext_old hD8 gD8
          refine ⟨xs6, hD9, ?_, k - 1, by omega, by omega, _, xs6 ++ [v], W9.mut gD9 hid_same, upd_same, gD9, ?_⟩
          · rw [r6.len, List.length_append, List.length_map]
            have z1 := le1 (ds.take i)
            have z2 := cnt i d hd
            have z3 : (((es d).take j).filter (p d)).length ≤ (es d).length := Nat.le_trans (List.length_filter_le _ _) (by rw [List.length_take]; exact Nat.min_le_right _ _)
            exact Nat.lt_of_le_of_lt (show _ ≤ 100000 by omega) (by decide)
          · rw [take_next he, List.filter_append, List.map_append, ← List.append_assoc]
            refine (r8.same ext_l).app ?_
            rw [List.filter_cons, if_pos hp]
            exact .one rv
        | false =>
          rw [if_neg Bool.false_ne_true]
          refine ⟨k - 1, by omega, by omega, _, xs6, W8, hD8, gD8, ?_⟩
          rw [take_next he, List.filter_append, List.map_append, List.filter_cons, if_neg (by rw [hp]; decide)]
          rw [List.filter_nil, List.map_nil, List.append_nil]
          exact r8
      · have ej : j = (es d).length := by omega
        subst ej
        refine .inl ⟨(ja1 _ H6 (W6.g0.trans W6.gh)).2 (Nat.le_refl _), m - 1, by omega, by omega, G6, xs6, W56, hD6, gD6, ?_⟩
        rw [take_next hd, List.flatMap_append, List.flatMap_cons, List.flatMap_nil, List.append_nil]
        rw [List.take_length] at r6
        exact r6
    · have ei : i = ds.length := by omega
      subst ei
      rw [List.take_length] at r
      refine .inl ⟨(ja _ H2 (W.g0.trans W.gh)).2 (Nat.le_refl _), q _ H2 (s1.trans W.bh) (.lst (xs := xs) ?_ ?_)⟩
      · exact ext_new (s1.free hD) ((e1.trans s1).free hD) hDd
      · refine r.same fun b o e => ?_
        have := W.fin b o e
        rw [ext_ext s1 W.bh] at this
        exact this
end
end DL
end
section
set_option Elab.async false
set_option linter.all false
set_option maxRecDepth 100000
set_option maxHeartbeats 4000000
/-! DW: statements and generator bodies over plain data. -/
namespace DL
open PySem L2 GX

structure AE where
  nx : List Sl → Prop
  rt : PyData → Prop
  bk : List Sl → Prop := fun _ => False
  ct : List Sl → Prop := fun _ => False
  ex : Int → Prop := fun _ => False
/-- from H on, the error of the class at C with n in it is wanted by E -/
def XT (C : Addr) (E : XK) (H : Hp) (n : Int) : Prop := ∀ (dd : Addr) (H' : Hp), Same H H' → H' dd = some (.xd [(("limit" : Str), .int n)]) → E (.ref C) (some dd) H'
theorem XT.on {C : Addr} {E : XK} {H H' : Hp} {n : Int} (x : XT C E H n) (s : Same H H') : XT C E H' n := fun dd H2 s2 e => x dd H2 (s.trans s2) e
structure Fits (C : Addr) (EX : XK) (G0 B : Hp) (A : AE) (D : Ends) : Prop where
  nx : ∀ G H σ δ, Wd G0 B G H → ER B G H σ δ → A.nx δ → D.nx σ H
  rt : ∀ H v d, Same G0 H → Same B H → Dat (ext G0 B H) v d → A.rt d → D.rt v H
  bk : ∀ G H σ δ, Wd G0 B G H → ER B G H σ δ → A.bk δ → D.bk σ H
  ct : ∀ G H σ δ, Wd G0 B G H → ER B G H σ δ → A.ct δ → D.ct σ H
  ex : ∀ n, A.ex n → XT C EX B n
def WS (C : Addr) (EX : XK) (ts : TS) (A : AE) (δ : List Sl) : Prop := ∀ (G0 B G H : Hp) (σ : L2.St) (D : Ends), Wd G0 B G H → ER B G H σ δ → Fits C EX G0 B A D → ts D σ H
section
variable {C : Addr} {EX : XK} {δ δ' : List Sl} {A A' : AE} {t u ts tb : TS} {te ta tb' : TE} {d : PyData} {ds es : List PyData} {K : PySem.W.Frag} {tt : TT} {i : Nat}
theorem Fits.in_ {G0 B G1 H1 : Hp} {D : Ends} (F : Fits C EX G0 B A D) (W : Wd G0 B G1 H1) : Fits C EX G1 B A D :=
  ⟨fun G H σ δ W' E h => F.nx G H σ δ (W.trans W') E h, fun H v d e1 e2 r h => F.rt H v d (W.g0.trans e1) e2 (r.same (W.outer e1)) h,
    fun G H σ δ W' E h => F.bk G H σ δ (W.trans W') E h, fun G H σ δ W' E h => F.ct G H σ δ (W.trans W') E h, F.ex⟩
theorem ws_seq (h : WS C EX t { A with nx := fun δ' => WS C EX u A δ' } δ) : WS C EX (tSeq t u) A δ := fun G0 B G H σ D W E F =>
  h G0 B G H σ _ W E ⟨fun G H σ δ W E hu => hu G0 B G H σ D W E F, F.rt, F.bk, F.ct, F.ex⟩
theorem ws_next (h : A.nx δ) : WS C EX tNext A δ := fun G0 B G H σ D W E F => F.nx G H σ δ W E h
theorem ws_cont (h : A.ct δ) : WS C EX tCont A δ := fun G0 B G H σ D W E F => F.ct G H σ δ W E h
theorem ws_brk (h : A.bk δ) : WS C EX tBreak A δ := fun G0 B G H σ D W E F => F.bk G H σ δ W E h
theorem ws_asg (h : EvE te δ d) (hn : A.nx (δ.set i (.pu d))) : WS C EX (tAsg te (gName i)) A δ := fun G0 B G H σ D W E F =>
  h B G H σ W.gh W.bh E _ fun v H' s r => F.nx _ H' _ _ (W.step s) ((E.step s).set r) hn
theorem ws_asgP {P : PyData → Prop} (h : EvP te δ P) (hn : ∀ d, P d → A.nx (δ.set i (.pu d))) : WS C EX (tAsg te (gName i)) A δ := fun G0 B G H σ D W E F =>
  h B G H σ W.gh W.bh E _ fun v H' d s r hp => F.nx _ H' _ _ (W.step s) ((E.step s).set r) (hn d hp)
/-- name = [a, b, ..], a list that will be changed -/
theorem ws_asgOw {ta : TA} (h : EvA ta δ ds) (hz : ds.length ≤ 100000) (hn : A.nx (δ.set i (.ow ds))) : WS C EX (tAsg (tLst ta) (gName i)) A δ := fun G0 B G H σ D W E F =>
  h B G H σ W.gh W.bh E _ fun vs H1 s1 r => by
    refine ⟨by rw [r.len]; exact Nat.le_trans hz (by decide), fun p hp => ?_⟩
    have W1 := W.step s1
    have s := same_new (o := .lst vs) hp
    have gp : ext G H H1 p = none := W1.gh.free hp
    have bp : B p = none := W1.bh.free hp
    have E1 := E.step s1
    refine F.nx (ext G H H1) _ _ _ (W1.mut gp bp) (ER.setOw (xs := vs) ?_ upd_same gp bp r fun j es hne hj hs => ?_) hn
    · refine ⟨E1.len, fun j o s' h1 h2 => ?_, E1.ne⟩
      have z := E1.at_ j o s' h1 h2
      cases s' with
      | any => trivial
      | pu d => exact z
      | ow fs =>
        obtain ⟨a, xs, q, hh, g, b, r⟩ := z
        exact ⟨a, xs, q, s _ _ hh, g, b, r⟩
    · obtain ⟨a, xs, q, hh, _⟩ := E1.own hj
      rw [hs] at q
      cases q
      rw [hp] at hh
      cases hh
/-- .append(e) -/
theorem ws_append (hi : δ[i]? = some (.ow ds)) (h : EvE te δ d) (hz : ds.length < 100000) (hn : A.nx (δ.set i (.ow (ds ++ [d])))) : WS C EX (tDrop (tBM K "list" rAppend (tVar i) (tCons te tNil))) A δ := fun G0 B G H σ D W E F => by
  obtain ⟨a, xs, hs, hh, g, b, r⟩ := E.own hi
  refine ⟨.ref a, hs, .inl ⟨rfl, _, .inl (.inl hh)⟩, ?_⟩
  refine h B G H σ W.gh W.bh E _ fun v H1 s1 rv => ?_
  have hh1 := s1 _ _ hh
  have g1 : ext G H H1 a = none := ext_old hh g
  refine ⟨a, xs, v, rfl, rfl, hh1, by rw [r.len]; exact Nat.lt_trans hz (by decide), ?_⟩
  exact F.nx (ext G H H1) _ _ _ ((W.step s1).mut g1 b) ((E.step s1).mut (xs := xs) hi hs g1 b ((r.same ext_l).app (.one rv))) hn
/-- .extend(list) -/
theorem ws_extend (hi : δ[i]? = some (.ow ds)) (h : EvE te δ (.list es)) (hz : ds.length + es.length ≤ 100000) (hn : A.nx (δ.set i (.ow (ds ++ es)))) : WS C EX (tDrop (tBM K "list" rExtend (tVar i) (tCons te tNil))) A δ := fun G0 B G H σ D W E F => by
  obtain ⟨a, xs, hs, hh, g, b, r⟩ := E.own hi
  refine ⟨.ref a, hs, .inl ⟨rfl, _, .inl (.inl hh)⟩, ?_⟩
  refine h B G H σ W.gh W.bh E _ fun v H1 s1 rv => ?_
  obtain ⟨c, ys, rfl, hc, rc⟩ := rv.inLst
  have hh1 := s1 _ _ hh
  have g1 : ext G H H1 a = none := ext_old hh g
  refine ⟨a, c, xs, ys, rfl, rfl, hh1, (W.step s1).gh _ _ hc, by rw [r.len, rc.len]; exact Nat.le_trans hz (by decide), ?_⟩
  exact F.nx (ext G H H1) _ _ _ ((W.step s1).mut g1 b) ((E.step s1).mut (xs := xs) hi hs g1 b ((r.same ext_l).app rc)) hn
/-- x[k] = e, x a list of its own -/
theorem ws_setitem {tk : TE} {k : Nat} (hi : δ[i]? = some (.ow ds)) (h : EvE te δ d) (hk : EvE tk δ (.int (k : Int))) (hz : k < ds.length) (hn : A.nx (δ.set i (.ow (ds.set k d)))) : WS C EX (tAsg te (gSub (tVar i) tk rSetL)) A δ := fun G0 B G H σ D W E F => by
  obtain ⟨a, xs, hs, hh, g, b, r⟩ := E.own hi
  refine h B G H σ W.gh W.bh E _ fun v H1 s1 rv => ?_
  refine ⟨.ref a, hs, ?_⟩
  have W1 := W.step s1
  refine hk B _ H1 σ W1.gh W1.bh (E.step s1) _ fun w H2 s2 rw' => ?_
  have g1 : ext G H H1 a = none := ext_old hh g
  have hh1 := s1 _ _ hh
  have g2 : ext (ext G H H1) H1 H2 a = none := ext_old hh1 g1
  rw [rw'.eqInt]
  refine ⟨a, xs, k, k, rfl, rfl, s2 _ _ hh1, ?_, ?_⟩
  · unfold ixN
    rw [r.len, if_pos (by omega), if_pos (by omega)]
    simp
  · exact F.nx _ _ _ _ ((W1.step s2).mut g2 b) (((E.step s1).step s2).mut (xs := xs) hi hs g2 b ((r.same (ext_l.trans ext_l)).set k (rv.same ext_l))) hn
/-- a list of its own is changed no more -/
theorem ws_freeze (hi : δ[i]? = some (.ow ds)) (h : WS C EX ts A (δ.set i (.pu (.list ds)))) : WS C EX ts A δ := fun G0 B G H σ D W E F => by
  obtain ⟨a, xs, hs, hh, g, b, r⟩ := E.own hi
  refine h G0 B (upd G a (.lst xs)) H σ D ⟨W.g0.trans (same_new g), same_upd W.gh hh, W.bh, fun c o e => ?_⟩ (E.freeze hi hs hh g r) F
  by_cases hc : c = a
  · subst hc; exact .inr b
  · rw [upd_ne hc] at e
    exact W.fr c o e
theorem ws_forget (j : Nat) (h : WS C EX ts A (δ.set j .any)) : WS C EX ts A δ := fun G0 B G H σ D W E F => h G0 B G H σ D W (E.any j) F
theorem ws_ret (h : EvE te δ d) (hr : A.rt d) : WS C EX (tRet te) A δ := fun G0 B G H σ D W E F =>
  h B G H σ W.gh W.bh E _ fun v H' s r => F.rt H' v d ((W.step s).g0.trans (W.step s).gh) (W.step s).bh (r.same (W.step s).fin) hr
theorem ws_retP {P : PyData → Prop} (h : EvP te δ P) (hr : ∀ d, P d → A.rt d) : WS C EX (tRet te) A δ := fun G0 B G H σ D W E F =>
  h B G H σ W.gh W.bh E _ fun v H' d s r hp => F.rt H' v d ((W.step s).g0.trans (W.step s).gh) (W.step s).bh (r.same (W.step s).fin) (hr d hp)
theorem ws_retN (hr : A.rt .none) : WS C EX tRetN A δ := fun G0 B G H σ D W E F => F.rt H .non .none (W.g0.trans W.gh) W.bh .non hr
theorem ws_drop (h : EvE te δ d) (hn : A.nx δ) : WS C EX (tDrop te) A δ := fun G0 B G H σ D W E F =>
  h B G H σ W.gh W.bh E _ fun v H' s r => F.nx _ H' _ _ (W.step s) (E.step s) hn
theorem ws_if {b : Bool} (h : EvT tt δ b) (h1 : b = true → WS C EX t A δ) (h2 : b = false → WS C EX u A δ) : WS C EX (tIfS tt t u) A δ := fun G0 B G H σ D W E F =>
  h B G H σ W.gh W.bh E _ fun H' s => by
    cases b with
    | true => rw [if_pos rfl]; exact h1 rfl G0 B _ H' σ D (W.step s) (E.step s) F
    | false => rw [if_neg Bool.false_ne_true]; exact h2 rfl G0 B _ H' σ D (W.step s) (E.step s) F
theorem ws_for {wi : TI} {g : TG} (hi : IA wi δ ds) (I : Nat → List Sl → Prop) (h0 : I 0 δ)
    (hs : ∀ (i : Nat) (d : PyData) (δ' : List Sl), ds[i]? = some d → I i δ' → ∃ δ2, GA g δ' d δ2 ∧ WS C EX tb { nx := I (i + 1), rt := A.rt, bk := A.nx, ct := I (i + 1), ex := A.ex } δ2) (hd : ∀ δ', I ds.length δ' → A.nx δ') : WS C EX (tFor wi g tb) A δ := fun G0 B G H σ D W E F =>
  hi B G H σ W.gh W.bh E _ fun J H1 s1 ja => by
    have W1 := W.step s1
    have F1 := F.in_ W1
    refine ⟨fun i m σ Hx => m + i = ds.length ∧ ∃ G' δ', Wd (ext G H H1) B G' Hx ∧ ER B G' Hx σ δ' ∧ I i δ', ⟨ds.length, by omega, _, δ, Wd.refl W1.gh W1.bh, E.step s1, h0⟩, fun i m σ2 H2 hw => ?_⟩
    obtain ⟨hm, G', δ', W', E', hI⟩ := hw
    by_cases hlt : i < ds.length
    · have hdd : ds[i]? = some ds[i] := List.getElem?_eq_getElem hlt
      generalize ds[i] = d at hdd
      obtain ⟨go, yl⟩ := (ja i H2 (W'.g0.trans W'.gh)).1 _ hdd
      refine .inr ⟨go, fun σ3 H3 => ∃ m', m' < m ∧ m' + (i + 1) = ds.length ∧ ∃ G' δ', Wd (ext G H H1) B G' H3 ∧ ER B G' H3 σ3 δ' ∧ I (i + 1) δ', fun σ3 H3 ⟨m', h1, h2⟩ => ⟨m', h1, h2⟩, fun x H3 y => ?_⟩
      obtain ⟨s3, rx⟩ := yl x H3 y
      have W3 := W'.step s3
      obtain ⟨δ2, hg, hb⟩ := hs i d δ' hdd hI
      refine hg B _ H3 σ2 x _ W3.gh W3.bh (E'.step s3) (rx.same (ext_mono W'.g0 W'.gh)) fun σ4 E4 => ?_
      refine hb _ B _ H3 σ4 _ W3 E4 ⟨fun G5 H5 σ5 δ5 W5 E5 h5 => ⟨m - 1, by omega, by omega, G5, δ5, W5, E5, h5⟩, F1.rt, fun G5 H5 σ5 δ5 W5 E5 h5 => F1.nx G5 H5 σ5 δ5 W5 E5 h5, fun G5 H5 σ5 δ5 W5 E5 h5 => ⟨m - 1, by omega, by omega, G5, δ5, W5, E5, h5⟩, F1.ex⟩
    · have ei : i = ds.length := by omega
      subst ei
      exact .inl ⟨(ja _ H2 (W'.g0.trans W'.gh)).2 (Nat.le_refl _), F1.nx G' H2 σ2 δ' W' E' (hd δ' hI)⟩
/-- what follows may ask less -/
theorem ws_imp (h : WS C EX ts A δ) (hn : ∀ δ, A.nx δ → A'.nx δ) (hr : ∀ d, A.rt d → A'.rt d) (hb : ∀ δ, A.bk δ → A'.bk δ) (hc : ∀ δ, A.ct δ → A'.ct δ) (hx : ∀ n, A.ex n → A'.ex n) : WS C EX ts A' δ := fun G0 B G H σ D W E F =>
  h G0 B G H σ D W E ⟨fun G H σ δ W E q => F.nx G H σ δ W E (hn δ q), fun H v d e1 e2 r q => F.rt H v d e1 e2 r (hr d q), fun G H σ δ W E q => F.bk G H σ δ W E (hb δ q), fun G H σ δ W E q => F.ct G H σ δ W E (hc δ q), fun n q => F.ex n (hx n q)⟩

/-! ### a def's body -/
def startA (n : Nat) (ds : List PyData) : List Sl := ds.map Sl.pu ++ List.replicate (n - ds.length) Sl.any
theorem er_start {G H : Hp} {N : List Str} {vs : List V} (r : Dats G vs ds) : ER H G H (start N vs) (startA N.length ds) := by
  refine ⟨?_, fun i o s h1 h2 => ?_, fun i j a es fs _ h1 _ _ _ => ?_⟩
  · unfold L2.start startA
    rw [List.length_append, List.length_append, List.length_map, List.length_map, List.length_replicate, List.length_replicate, r.len]
  · unfold L2.start at h1
    unfold startA at h2
    by_cases hi : i < ds.length
    · have hv : i < vs.length := by rw [r.len]; exact hi
      rw [List.getElem?_append_left (by rw [List.length_map]; exact hi), List.getElem?_map, List.getElem?_eq_getElem hi] at h2
      rw [List.getElem?_append_left (by rw [List.length_map]; exact hv), List.getElem?_map, List.getElem?_eq_getElem hv] at h1
      have e2 : Sl.pu ds[i] = s := Option.some.inj h2
      have e1 : some vs[i] = o := Option.some.inj h1
      subst e1 e2
      obtain ⟨v, q, z⟩ := r.get (List.getElem?_eq_getElem hi)
      rw [List.getElem?_eq_getElem hv] at q
      cases q
      exact ⟨_, rfl, z⟩
    · rw [List.getElem?_append_right (by rw [List.length_map]; omega), List.getElem?_replicate] at h2
      split at h2
      · cases h2; trivial
      · cases h2
  · unfold startA at h1
    by_cases hi : i < ds.length
    · rw [List.getElem?_append_left (by rw [List.length_map]; exact hi), List.getElem?_map, List.getElem?_eq_getElem hi] at h1
      cases h1
    · rw [List.getElem?_append_right (by rw [List.length_map]; omega), List.getElem?_replicate] at h1
      split at h1
      · cases h1
      · cases h1
/-! ### generator bodies -/
structure AG where
  nx : List PyData → List Sl → Prop
  rt : List PyData → Prop
  bk : List PyData → List Sl → Prop := fun _ _ => False
  ct : List PyData → List Sl → Prop := fun _ _ => False
  ex : Int → Prop := fun _ => False
structure FitsG (C : Addr) (EX : XK) (G0 B : Hp) (A : AG) (D : GEnds) : Prop where
  nx : ∀ G H σ δ ys es, Wd G0 B G H → ER B G H σ δ → Dats G ys es → A.nx es δ → D.nx ys σ H
  rt : ∀ H ys es, Same G0 H → Same B H → Dats (ext G0 B H) ys es → A.rt es → D.rt ys .non H
  bk : ∀ G H σ δ ys es, Wd G0 B G H → ER B G H σ δ → Dats G ys es → A.bk es δ → D.bk ys σ H
  ct : ∀ G H σ δ ys es, Wd G0 B G H → ER B G H σ δ → Dats G ys es → A.ct es δ → D.ct ys σ H
  ex : ∀ n, A.ex n → XT C EX B n
def WG (C : Addr) (EX : XK) (tg : TGn) (A : AG) (es : List PyData) (δ : List Sl) : Prop := ∀ (G0 B G H : Hp) (σ : L2.St) (ys : List V) (D : GEnds), Wd G0 B G H → ER B G H σ δ → Dats G ys es → FitsG C EX G0 B A D → tg D ys σ H
variable {AA : AG} {tg th : TGn}
theorem FitsG.in_ {G0 B G1 H1 : Hp} {D : GEnds} (F : FitsG C EX G0 B AA D) (W : Wd G0 B G1 H1) : FitsG C EX G1 B AA D :=
  ⟨fun G H σ δ ys es W' E r h => F.nx G H σ δ ys es (W.trans W') E r h, fun H ys es e1 e2 r h => F.rt H ys es (W.g0.trans e1) e2 (r.same (W.outer e1)) h,
    fun G H σ δ ys es W' E r h => F.bk G H σ δ ys es (W.trans W') E r h, fun G H σ δ ys es W' E r h => F.ct G H σ δ ys es (W.trans W') E r h, F.ex⟩
theorem wg_plain (h : WS C EX ts { nx := AA.nx es, rt := fun d => d = .none ∧ AA.rt es, bk := AA.bk es, ct := AA.ct es, ex := AA.ex } δ) : WG C EX (tPlain ts) AA es δ := fun G0 B G H σ ys D W E r F => by
  have F1 := F.in_ W
  refine h G B G H σ (D.at ys) (Wd.refl W.gh W.bh) E ⟨fun G' H' σ' δ' W' E' hn => F1.nx G' H' σ' δ' ys es W' E' (r.same W'.g0) hn, fun H' v d e1 e2 rd hd => ?_,
    fun G' H' σ' δ' W' E' hn => F1.bk G' H' σ' δ' ys es W' E' (r.same W'.g0) hn, fun G' H' σ' δ' W' E' hn => F1.ct G' H' σ' δ' ys es W' E' (r.same W'.g0) hn, F1.ex⟩
  obtain ⟨rfl, hd⟩ := hd
  rw [rd.eqNone]
  exact F1.rt H' ys es e1 e2 (r.same ext_l) hd
theorem wg_nil (h : AA.nx es δ) : WG C EX tG0 AA es δ := fun G0 B G H σ ys D W E r F => F.nx G H σ δ ys es W E r h
theorem wg_then (h : WG C EX tg { AA with nx := fun es' δ' => WG C EX th AA es' δ' } es δ) : WG C EX (tGThen tg th) AA es δ := fun G0 B G H σ ys D W E r F =>
  h G0 B G H σ ys _ W E r ⟨fun G H σ δ ys es W E r hu => hu G0 B G H σ ys D W E r F, F.rt, F.bk, F.ct, F.ex⟩
theorem wg_yield (h : EvE te δ d) (hz : es.length < 100000) (hn : AA.nx (es ++ [d]) δ) : WG C EX (tGYield te) AA es δ := fun G0 B G H σ ys D W E r F =>
  ⟨by rw [r.len]; exact Nat.lt_trans hz (by decide), h B G H σ W.gh W.bh E _ fun v H' s rv => F.nx _ H' σ δ (ys ++ [v]) (es ++ [d]) (W.step s) (E.step s) ((r.same ext_l).app (.one rv)) hn⟩
theorem wg_if {b : Bool} (h : EvT tt δ b) (h1 : b = true → WG C EX tg AA es δ) (h2 : b = false → WG C EX th AA es δ) : WG C EX (tGIf tt tg th) AA es δ := fun G0 B G H σ ys D W E r F =>
  h B G H σ W.gh W.bh E _ fun H' s => by
    cases b with
    | true => rw [if_pos rfl]; exact h1 rfl G0 B _ H' σ ys D (W.step s) (E.step s) (r.same ext_l) F
    | false => rw [if_neg Bool.false_ne_true]; exact h2 rfl G0 B _ H' σ ys D (W.step s) (E.step s) (r.same ext_l) F
theorem wg_for {wi : TI} {g : TG} (hi : IA wi δ ds) (I : Nat → List PyData → List Sl → Prop) (h0 : I 0 es δ)
    (hs : ∀ (i : Nat) (d : PyData) (es : List PyData) (δ' : List Sl), ds[i]? = some d → I i es δ' → ∃ δ2, GA g δ' d δ2 ∧ WG C EX tg { nx := I (i + 1), rt := AA.rt, bk := AA.nx, ct := I (i + 1), ex := AA.ex } es δ2) (hd : ∀ es δ', I ds.length es δ' → AA.nx es δ') : WG C EX (tGFor wi g tg) AA es δ := fun G0 B G H σ ys D W E r F =>
  hi B G H σ W.gh W.bh E _ fun J H1 s1 ja => by
    have W1 := W.step s1
    have F1 := F.in_ W1
    refine ⟨fun i m ys σ Hx => m + i = ds.length ∧ ∃ G' es δ', Wd (ext G H H1) B G' Hx ∧ ER B G' Hx σ δ' ∧ Dats G' ys es ∧ I i es δ', ⟨ds.length, by omega, _, es, δ, Wd.refl W1.gh W1.bh, E.step s1, r.same ext_l, h0⟩, fun i m ys2 σ2 H2 hw => ?_⟩
    obtain ⟨hm, G', es', δ', W', E', r', hI⟩ := hw
    by_cases hlt : i < ds.length
    · have hdd : ds[i]? = some ds[i] := List.getElem?_eq_getElem hlt
      generalize ds[i] = d at hdd
      obtain ⟨go, yl⟩ := (ja i H2 (W'.g0.trans W'.gh)).1 _ hdd
      refine .inr ⟨go, fun ys3 σ3 H3 => ∃ m', m' < m ∧ m' + (i + 1) = ds.length ∧ ∃ G' es δ', Wd (ext G H H1) B G' H3 ∧ ER B G' H3 σ3 δ' ∧ Dats G' ys3 es ∧ I (i + 1) es δ', fun ys3 σ3 H3 ⟨m', h1, h2⟩ => ⟨m', h1, h2⟩, fun x H3 y => ?_⟩
      obtain ⟨s3, rx⟩ := yl x H3 y
      have W3 := W'.step s3
      obtain ⟨δ2, hg, hb⟩ := hs i d es' δ' hdd hI
      refine hg B _ H3 σ2 x _ W3.gh W3.bh (E'.step s3) (rx.same (ext_mono W'.g0 W'.gh)) fun σ4 E4 => ?_
      refine hb _ B _ H3 σ4 ys2 _ W3 E4 (r'.same ext_l) ⟨fun G5 H5 σ5 δ5 ys5 es5 W5 E5 r5 h5 => ⟨m - 1, by omega, by omega, G5, es5, δ5, W5, E5, r5, h5⟩, F1.rt, fun G5 H5 σ5 δ5 ys5 es5 W5 E5 r5 h5 => F1.nx G5 H5 σ5 δ5 ys5 es5 W5 E5 r5 h5, fun G5 H5 σ5 δ5 ys5 es5 W5 E5 r5 h5 => ⟨m - 1, by omega, by omega, G5, es5, δ5, W5, E5, r5, h5⟩, F1.ex⟩
    · have ei : i = ds.length := by omega
      subst ei
      exact .inl ⟨(ja _ H2 (W'.g0.trans W'.gh)).2 (Nat.le_refl _), F1.nx G' H2 σ2 δ' ys2 es' W' E' r' (hd es' δ' hI)⟩
theorem wg_while {tc : TT} (I : Nat → List PyData → List Sl → Prop) (m0 : Nat) (h0 : I m0 es δ)
    (hs : ∀ m es δ, I m es δ → ∃ b, EvT tc δ b ∧ (b = true → WG C EX tg { nx := fun es' δ' => ∃ m', m' < m ∧ I m' es' δ', rt := AA.rt, bk := AA.nx, ct := fun es' δ' => ∃ m', m' < m ∧ I m' es' δ', ex := AA.ex } es δ) ∧ (b = false → AA.nx es δ)) : WG C EX (tGWhile tc tg) AA es δ := fun G0 B G H σ ys D W E r F => by
  refine ⟨fun m ys σ H => ∃ G' es δ', Wd G0 B G' H ∧ ER B G' H σ δ' ∧ Dats G' ys es ∧ I m es δ', ⟨m0, G, es, δ, W, E, r, h0⟩, fun m ys2 σ2 H2 hw => ?_⟩
  obtain ⟨G', es', δ', W', E', r', hI⟩ := hw
  obtain ⟨b, ht, h1, h2⟩ := hs m es' δ' hI
  refine ht B G' H2 σ2 W'.gh W'.bh E' _ fun H3 s3 => ?_
  have W3 := W'.step s3
  cases b with
  | true =>
    rw [if_pos rfl]
    refine ⟨fun ys σ H => ∃ m', m' < m ∧ ∃ G' es δ', Wd G0 B G' H ∧ ER B G' H σ δ' ∧ Dats G' ys es ∧ I m' es δ', fun ys σ H ⟨m', hm, z⟩ => ⟨m', hm, z⟩, ?_⟩
    refine h1 rfl G0 B _ H3 σ2 ys2 _ W3 (E'.step s3) (r'.same ext_l) ⟨fun G5 H5 σ5 δ5 ys5 es5 W5 E5 r5 ⟨m', hm, h5⟩ => ⟨m', hm, G5, es5, δ5, W5, E5, r5, h5⟩, F.rt, F.nx, fun G5 H5 σ5 δ5 ys5 es5 W5 E5 r5 ⟨m', hm, h5⟩ => ⟨m', hm, G5, es5, δ5, W5, E5, r5, h5⟩, F.ex⟩
  | false =>
    rw [if_neg Bool.false_ne_true]
    exact F.nx _ H3 σ2 δ' ys2 es' W3 (E'.step s3) (r'.same ext_l) (h2 rfl)
/-- x = row.pop() + 1, row a list of ints of its own -/
theorem ws_popAdd {j : Nat} {n : Int} (hi : δ[i]? = some (.ow (ds ++ [.int n]))) (hn : A.nx ((δ.set i (.ow ds)).set j (.pu (.int (n + 1))))) : WS C EX (tAsg (tOp (rI0 fun i j => .int (i + j)) (tBM0 K "list" rPop (tVar i)) (tC (.int 1))) (gName j)) A δ := fun G0 B G H σ D W E F => by
  obtain ⟨a, xs, hs, hh, g, b, r⟩ := E.own hi
  refine ⟨.ref a, hs, .inl ⟨rfl, _, .inl (.inl hh)⟩, ?_⟩
  have hl : xs.length = ds.length + 1 := by rw [r.len, List.length_append]; rfl
  obtain ⟨v, hv, rv⟩ := r.get (i := ds.length) (d := .int n) (by rw [List.getElem?_append_right (Nat.le_refl _), Nat.sub_self]; rfl)
  refine ⟨a, xs, v, rfl, rfl, hh, by rw [hl]; exact hv, ?_⟩
  refine ⟨n, 1, rv.eqInt, rfl, ?_⟩
  have rd : Dats G xs.dropLast ds := by
    have z := r.dropLast
    rw [List.dropLast_concat] at z
    exact z
  exact F.nx G _ _ _ (W.mut g b) ((E.mut (xs := xs) hi hs g b rd).set (.int (n + 1))) hn

end
end DL
end
section
set_option Elab.async false
set_option linter.all false
set_option maxRecDepth 100000
set_option maxHeartbeats 4000000
/-! RX: readings that run: for a reading over data, the function that it computes, and that it does. -/
namespace DL
open PySem L2 GX PyProof.Rows

inductive Rn (α : Type) where
  | bad
  | ok (a : α)
  | ex (n : Int)
def Rn.bd {α β : Type} : Rn α → (α → Rn β) → Rn β
  | .bad, _ => .bad
  | .ok a, f => f a
  | .ex n, _ => .ex n
def ofO {α : Type} : Option α → Rn α
  | none => .bad
  | some a => .ok a
/-- an exception: the error of the class at C, n in it -/
def EvX (C : Addr) (EX : XK) (te : TE) (δ : List Sl) (n : Int) : Prop := ∀ (B G H : Hp) (σ : L2.St), Same G H → Same B H → ER B G H σ δ → XT C EX H n → ∀ Q : VK, te σ H Q
def EvXA (C : Addr) (EX : XK) (ta : TA) (δ : List Sl) (n : Int) : Prop := ∀ (B G H : Hp) (σ : L2.St), Same G H → Same B H → ER B G H σ δ → XT C EX H n → ∀ Q : List V → Hp → Prop, ta σ H Q
def EvXT (C : Addr) (EX : XK) (tt : TT) (δ : List Sl) (n : Int) : Prop := ∀ (B G H : Hp) (σ : L2.St), Same G H → Same B H → ER B G H σ δ → XT C EX H n → ∀ Q : Bool → Hp → Prop, tt σ H Q
def Sd (C : Addr) (EX : XK) (te : TE) (δ : List Sl) : Rn PyData → Prop
  | .bad => True
  | .ok d => EvE te δ d
  | .ex n => EvX C EX te δ n
def SdA (C : Addr) (EX : XK) (ta : TA) (δ : List Sl) : Rn (List PyData) → Prop
  | .bad => True
  | .ok d => EvA ta δ d
  | .ex n => EvXA C EX ta δ n
def SdT (C : Addr) (EX : XK) (tt : TT) (δ : List Sl) : Rn Bool → Prop
  | .bad => True
  | .ok b => EvT tt δ b
  | .ex n => EvXT C EX tt δ n
class RE (C : Addr) (EX : XK) (te : TE) where
  run : List Sl → Rn PyData
  sd : ∀ δ, Sd C EX te δ (run δ)
class RA (C : Addr) (EX : XK) (ta : TA) where
  run : List Sl → Rn (List PyData)
  sd : ∀ δ, SdA C EX ta δ (run δ)
class RT (C : Addr) (EX : XK) (tt : TT) where
  run : List Sl → Rn Bool
  sd : ∀ δ, SdT C EX tt δ (run δ)
class RO (r : R2) where
  run : PyData → PyData → Option PyData
  sd : ∀ d1 d2 d, run d1 d2 = some d → OpD r d1 d2 d
class RB (r : List V → Hp → VK → Prop) where
  run : List PyData → Option PyData
  sd : ∀ ds d, run ds = some d → ClD r ds d
class RI (C : Addr) (EX : XK) (wi : TI) where
  run : List Sl → Option (List PyData)
  sd : ∀ δ ds, run δ = some ds → IA wi δ ds
class RG (g : TG) where
  run : List Sl → PyData → Option (List Sl)
  sd : ∀ δ d δ', run δ d = some δ' → GA g δ d δ'
class RGw (g : TG) (vs : List Nat) where
  run : List Sl → PyData → Option (List Sl)
  sd : ∀ δ d δ', run δ d = some δ' → GAw g vs δ d δ'

section
variable {C : Addr} {EX : XK} {te ta tb tk : TE} {tA tB' : TA} {tt tu : TT} {r : R2} {K : PySem.W.Frag}
/-! ### leaves -/
instance reVar (i : Nat) : RE C EX (tVar i) where
  run δ := match δ[i]? with
    | some (.pu d) => .ok d
    | _ => .bad
  sd δ := by
    split
    · rename_i d h
      exact eve_var h
    · trivial
def vD : V → Option PyData
  | .int i => some (.int i)
  | .bl b => some (.bool b)
  | .non => some .none
  | .str x => some (.str x)
  | _ => none
theorem vD_dat {G : Hp} : ∀ {v : V} {d : PyData}, vD v = some d → Dat G v d := by
  intro v d h
  cases v <;> simp only [vD, Option.some.injEq, reduceCtorEq] at h <;> subst h <;> constructor
instance reC (v : V) : RE C EX (tC v) where
  run _ := ofO (vD v)
  sd δ := by
    cases h : vD v with
    | none => trivial
    | some d => exact fun B G H σ e1 e2 E Q q => q v H (Same.refl H) (vD_dat h)
/-! ### operations -/
instance reOp [a : RE C EX ta] [b : RE C EX tb] [o : RO r] : RE C EX (tOp r ta tb) where
  run δ := (a.run δ).bd fun d1 => (b.run δ).bd fun d2 => ofO (o.run d1 d2)
  sd δ := by
    have ha := a.sd δ
    have hb := b.sd δ
    show Sd C EX _ δ ((a.run δ).bd fun d1 => (b.run δ).bd fun d2 => ofO (o.run d1 d2))
    revert ha hb
    cases a.run δ with
    | bad => intro _ _; trivial
    | ex n => intro ha _; exact fun B G H σ e1 e2 E x Q => ha B G H σ e1 e2 E x _
    | ok d1 =>
      cases b.run δ with
      | bad => intro _ _; trivial
      | ex n => intro ha hb; exact fun B G H σ e1 e2 E x Q => ha B G H σ e1 e2 E _ fun v H1 s1 r1 => hb B (ext G H H1) H1 σ (ext_r e1 s1) (e2.trans s1) (E.step s1) (x.on s1) _
      | ok d2 =>
        intro ha hb
        show Sd C EX _ δ (ofO (o.run d1 d2))
        cases h : o.run d1 d2 with
        | none => trivial
        | some d => exact eve_op ha hb (o.sd d1 d2 d h)
instance roI0 (g : Int → Int → V) : RO (rI0 g) where
  run d1 d2 := match d1, d2 with
    | .int i, .int j => vD (g i j)
    | _, _ => none
  sd d1 d2 d h := by
    split at h
    · exact fun G H x y e h1 h2 Q q => ⟨_, _, h1.eqInt, h2.eqInt, q _ H (Same.refl H) (vD_dat h)⟩
    · cases h
instance roI (c : Int → Int → Prop) (g : Int → Int → V) [dc : ∀ i j, Decidable (c i j)] : RO (rI c g) where
  run d1 d2 := match d1, d2 with
    | .int i, .int j => if c i j then vD (g i j) else none
    | _, _ => none
  sd d1 d2 d h := by
    split at h
    · split at h
      · rename_i hc
        exact fun G H x y e h1 h2 Q q => ⟨_, _, h1.eqInt, h2.eqInt, hc, q _ H (Same.refl H) (vD_dat h)⟩
      · cases h
    · cases h
instance (i j : Int) : Decidable (CDiv i j) := inferInstanceAs (Decidable (_ ∧ _))
instance (i j : Int) : Decidable (CPow i j) := inferInstanceAs (Decidable (_ ∧ _ ∧ _))
instance (i j : Int) : Decidable (CMul i j) := inferInstanceAs (Decidable (_ ∨ _))
def eqS : PyData → PyData → Option Bool
  | .int i, .int j => some (decide (i = j))
  | .bool i, .bool j => some (decide (i = j))
  | .str i, .str j => some (decide (i = j))
  | _, _ => none
theorem eqS_V {G : Hp} {x y : V} {d1 d2 : PyData} {b : Bool} (h : eqS d1 d2 = some b) (h1 : Dat G x d1) (h2 : Dat G y d2) : scal x y = true ∧ decide (x = y) = b := by
  unfold eqS at h
  split at h
  · rw [h1.eqInt, h2.eqInt]
    refine ⟨rfl, ?_⟩
    rw [← Option.some.inj h]
    rename_i i j
    by_cases e : i = j <;> simp [e]
  · rw [h1.eqBool, h2.eqBool]
    refine ⟨rfl, ?_⟩
    rw [← Option.some.inj h]
    rename_i i j
    by_cases e : i = j <;> simp [e]
  · rw [h1.eqStr, h2.eqStr]
    refine ⟨rfl, ?_⟩
    rw [← Option.some.inj h]
    rename_i i j
    by_cases e : i = j <;> simp [e]
  · cases h
instance roEq : RO rEq where
  run d1 d2 := (eqS d1 d2).map .bool
  sd d1 d2 d h := by
    cases e : eqS d1 d2 with
    | none => rw [e] at h; cases h
    | some b =>
      rw [e] at h
      cases h
      intro G H x y e1 h1 h2 Q q
      obtain ⟨z1, z2⟩ := eqS_V e h1 h2
      exact ⟨z1, by rw [z2]; exact q _ H (Same.refl H) (.bl b)⟩
instance roNe : RO rNe where
  run d1 d2 := (eqS d1 d2).map fun b => .bool (!b)
  sd d1 d2 d h := by
    cases e : eqS d1 d2 with
    | none => rw [e] at h; cases h
    | some b =>
      rw [e] at h
      cases h
      intro G H x y e1 h1 h2 Q q
      obtain ⟨z1, z2⟩ := eqS_V e h1 h2
      exact ⟨z1, by rw [z2]; exact q _ H (Same.refl H) (.bl _)⟩
def rIsN : R2 := fun x y H Q => y = .non ∧ Q (.bl (decide (x = .non))) H
def rNotN : R2 := fun x y H Q => y = .non ∧ Q (.bl (!decide (x = .non))) H
theorem op_isN2 {X : Cx} : OpR X (compareOp .Is) rIsN := op_isN
theorem op_notN2 {X : Cx} : OpR X (compareOp .IsNot) rNotN := op_notN
instance roIsN : RO rIsN where
  run d1 d2 := match d2 with
    | .none => some (.bool (isN d1))
    | _ => none
  sd d1 d2 d h := by
    split at h
    · cases h; exact opd_isN
    · cases h
instance roNotN : RO rNotN where
  run d1 d2 := match d2 with
    | .none => some (.bool (!isN d1))
    | _ => none
  sd d1 d2 d h := by
    split at h
    · cases h; exact opd_notN
    · cases h
instance roEqD : RO (rEqD K) where
  run d1 d2 := if SeqAt.shaped d1 = true ∧ SeqAt.shaped d2 = true then some (.bool (PyData.eqv d1 d2)) else none
  sd d1 d2 d h := by
    split at h
    · rename_i z
      cases h
      exact opd_eqD z.1 z.2
    · cases h
instance roNeD : RO (rNeD K) where
  run d1 d2 := if SeqAt.shaped d1 = true ∧ SeqAt.shaped d2 = true then some (.bool (!PyData.eqv d1 d2)) else none
  sd d1 d2 d h := by
    split at h
    · rename_i z
      cases h
      exact opd_neD z.1 z.2
    · cases h
def ixD (ds : List PyData) (i : Int) : Option PyData := match i with
  | .ofNat n => ds[n]?
  | .negSucc _ => none
instance roIxT : RO (rIxT K) where
  run d1 d2 := match d1, d2 with
    | .tuple ds, .int i => ixD ds i
    | _, _ => none
  sd d1 d2 d h := by
    split at h
    · unfold ixD at h
      split at h
      · exact opd_ixT h
      · cases h
    · cases h
theorem opd_ixL {ds : List PyData} {d : PyData} {i : Nat} (h : ds[i]? = some d) : OpD (rIxL K) (.list ds) (.int (i : Int)) d := fun G H x y e h1 h2 Q q => by
  obtain ⟨a, xs, rfl, g, r⟩ := h1.inLst
  obtain ⟨v, hv, rv⟩ := r.get h
  rw [h2.eqInt]
  exact ⟨a, xs, i, v, rfl, rfl, SqL.of (e _ _ g), atI_nat hv, q v H (Same.refl H) (rv.same ext_l)⟩
theorem opd_ixF {kvs : List (PyData × PyData)} {d : PyData} {i : Nat} (h : (kvs.map fun q => q.1)[i]? = some d) : OpD (rIxL K) (.dict kvs) (.int (i : Int)) d := fun G H x y e h1 h2 Q q => by
  obtain ⟨a, o, ns, rfl, rfl, g⟩ := h1.inFrz
  rw [List.map_map, List.getElem?_map] at h
  obtain ⟨z, hz, rfl⟩ := Option.map_eq_some_iff.mp h
  rw [h2.eqInt]
  exact ⟨a, ns.map V.int, i, .int z, rfl, rfl, .inl (.inr ⟨o, e _ _ g⟩), atI_nat (by rw [List.getElem?_map, hz]; rfl), q _ H (Same.refl H) (.int z)⟩
instance roIxL : RO (rIxL K) where
  run d1 d2 := match d1, d2 with
    | .list ds, .int i => ixD ds i
    | .dict kvs, .int i => ixD (kvs.map fun q => q.1) i
    | _, _ => none
  sd d1 d2 d h := by
    split at h
    · unfold ixD at h
      split at h
      · exact opd_ixL h
      · cases h
    · unfold ixD at h
      split at h
      · exact opd_ixF h
      · cases h
    · cases h
def dV : PyData → Option V
  | .none => some .non
  | .bool b => some (.bl b)
  | .int i => some (.int i)
  | .str x => some (.str x)
  | _ => none
def dVs : List PyData → Option (List V)
  | [] => some []
  | d :: ds => match dV d, dVs ds with
    | some v, some vs => some (v :: vs)
    | _, _ => none
theorem dV_eq {G : Hp} {v x : V} {d : PyData} (h : dV d = some v) (hd : Dat G x d) : x = v := by
  cases hd <;> simp only [dV, Option.some.injEq, reduceCtorEq] at h <;> exact h
theorem dV_flat {v : V} {d : PyData} (h : dV d = some v) : flatV v = true := by
  cases d <;> simp only [dV, Option.some.injEq, reduceCtorEq] at h <;> subst h <;> rfl
theorem dVs_eq {G : Hp} : ∀ {vs xs : List V} {ds : List PyData}, dVs ds = some vs → Dats G xs ds → xs = vs
  | vs, _, [], h, .nil => by simp only [dVs, Option.some.injEq] at h; exact h
  | vs, _, d :: ds, h, .cons h1 h2 => by
    unfold dVs at h
    split at h
    · rename_i v us e1 e2
      rw [← Option.some.inj h, dV_eq e1 h1, dVs_eq e2 h2]
    · cases h
theorem dVs_flat : ∀ {vs : List V} {ds : List PyData}, dVs ds = some vs → vs.all flatV = true
  | vs, [], h => by simp only [dVs, Option.some.injEq] at h; subst h; rfl
  | vs, d :: ds, h => by
    unfold dVs at h
    split at h
    · rename_i v us e1 e2
      rw [← Option.some.inj h, List.all_cons, dV_flat e1, dVs_flat e2]
      rfl
    · cases h
def inD (neg : Bool) (d : PyData) (ds : List PyData) : Option PyData := match dV d, dVs ds with
  | some v, some vs => some (.bool (if neg then !inV v vs else inV v vs))
  | _, _ => none
instance roIn (neg : Bool) : RO (rIn K neg) where
  run d1 d2 := match d2 with
    | .list ds => inD neg d1 ds
    | .tuple ds => inD neg d1 ds
    | _ => none
  sd d1 d2 d h := by
    split at h
    · unfold inD at h
      split at h
      · rename_i v vs e1 e2
        cases h
        intro G H x y e h1 h2 Q q
        obtain ⟨a, xs, rfl, g, r⟩ := h2.inLst
        rw [dV_eq e1 h1]
        have ex := dVs_eq e2 r
        subst ex
        exact ⟨a, xs, rfl, .inl (SqL.of (e _ _ g)), dV_flat e1, dVs_flat e2, q _ H (Same.refl H) (.bl _)⟩
      · cases h
    · unfold inD at h
      split at h
      · rename_i v vs e1 e2
        cases h
        intro G H x y e h1 h2 Q q
        obtain ⟨a, xs, rfl, g, r⟩ := h2.inTup
        rw [dV_eq e1 h1]
        have ex := dVs_eq e2 r
        subst ex
        exact ⟨a, xs, rfl, .inr (SqT.of (e _ _ g)), dV_flat e1, dVs_flat e2, q _ H (Same.refl H) (.bl _)⟩
      · cases h
    · cases h
/-- in, not in: a tuple of data of any depth -/
def rInDT (K : PySem.W.Frag) (neg : Bool) : R2 := fun x y H Q => ∃ d ds, Dp K H x d ∧ Dp K H y (.tuple ds) ∧ SeqAt.shaped d = true ∧ SeqAt.shaped (.tuple ds) = true ∧ Q (.bl (if neg then !(ds.any fun z => PyData.eqv z d) else ds.any fun z => PyData.eqv z d)) H
theorem op_inDT {X : Cx} (hu : X.A.units + 65 < cLine) : OpR X (compareOp .In) (rInDT X.K false) := by
  intro pins s σ H x y v u Q I rx ry h
  obtain ⟨d, ds, hd, he, sd, se, q⟩ := h
  obtain ⟨as, r1⟩ := Dp.reads I d x v hd rx
  obtain ⟨bs, r2⟩ := Dp.reads I (.tuple ds) y u he ry
  exact SeqAt.in_tuple_reads r2 r1 (SeqAt.canLay_of_shaped se) (SeqAt.canLay_of_shaped sd) (room_in_shaped sd hu) ⟨.bl _, H, I, rfl, q⟩
theorem op_notInDT {X : Cx} (hu : X.A.units + 65 < cLine) : OpR X (compareOp .NotIn) (rInDT X.K true) := by
  intro pins s σ H x y v u Q I rx ry h
  obtain ⟨d, ds, hd, he, sd, se, q⟩ := h
  obtain ⟨as, r1⟩ := Dp.reads I d x v hd rx
  obtain ⟨bs, r2⟩ := Dp.reads I (.tuple ds) y u he ry
  exact SeqAt.notIn_tuple_reads r2 r1 (SeqAt.canLay_of_shaped se) (SeqAt.canLay_of_shaped sd) (room_in_shaped sd hu) ⟨.bl _, H, I, rfl, q⟩
instance roInDT (neg : Bool) : RO (rInDT K neg) where
  run d1 d2 := match d2 with
    | .tuple ds => if SeqAt.shaped d1 = true ∧ SeqAt.shaped (.tuple ds) = true then some (.bool (if neg then !(ds.any fun z => PyData.eqv z d1) else ds.any fun z => PyData.eqv z d1)) else none
    | _ => none
  sd d1 d2 d h := by
    split at h
    · split at h
      · rename_i z
        cases h
        exact fun G H x y e h1 h2 Q q => ⟨d1, _, (h1.same e).dp (SeqAt.canLay_of_shaped z.1), (h2.same e).dp (SeqAt.canLay_of_shaped z.2), z.1, z.2, q _ H (Same.refl H) (.bl _)⟩
      · cases h
    · cases h
instance roCat : RO rCat where
  run d1 d2 := match d1, d2 with
    | .list ds, .list es => if ds.length + es.length ≤ 100000 then some (.list (ds ++ es)) else none
    | _, _ => none
  sd d1 d2 d h := by
    split at h
    · split at h
      · rename_i hz
        cases h
        intro G H x y e h1 h2 Q q
        obtain ⟨a, xs, rfl, g, r⟩ := h1.inLst
        obtain ⟨b, ys, rfl, g', r'⟩ := h2.inLst
        refine ⟨a, b, xs, ys, rfl, rfl, e _ _ g, e _ _ g', by rw [r.len, r'.len]; exact Nat.le_trans hz (by decide), fun p hp => ?_⟩
        have s := same_new (o := .lst (xs ++ ys)) hp
        exact q _ _ s (.lst (ext_new hp (e.free hp) upd_same) ((r.app r').same ext_l))
      · cases h
    · cases h
instance roCatA : RO (rCatA K) where
  run d1 d2 := match d1, d2 with
    | .tuple ds, .tuple es => if ds.length + es.length ≤ 100000 then some (.tuple (ds ++ es)) else none
    | _, _ => none
  sd d1 d2 d h := by
    split at h
    · split at h
      · rename_i hz
        cases h
        intro G H x y e h1 h2 Q q
        obtain ⟨a, xs, rfl, g, r⟩ := h1.inTup
        obtain ⟨b, ys, rfl, g', r'⟩ := h2.inTup
        refine ⟨a, b, xs, ys, rfl, rfl, SqT.of (e _ _ g), SqT.of (e _ _ g'), by rw [r.len, r'.len]; exact Nat.le_trans hz (by decide), fun hx => ?_, fun hx hy => ?_, fun hx hy p hp => ?_⟩
        · subst hx
          cases r
          exact q _ H (Same.refl H) (.tup (ext_l _ _ g') (r'.same ext_l))
        · subst hy
          cases r'
          rw [List.append_nil] at q
          exact q _ H (Same.refl H) (.tup (ext_l _ _ g) (r.same ext_l))
        · have s := same_new (o := .tup (xs ++ ys)) hp
          exact q _ _ s (.tup (ext_new hp (e.free hp) upd_same) ((r.app r').same ext_l))
      · cases h
    · cases h
theorem dats_rep {G : Hp} {xs : List V} {ds : List PyData} (r : Dats G xs ds) : ∀ k : Nat, Dats G (List.replicate k xs).flatten (List.replicate k ds).flatten
  | 0 => .nil
  | k + 1 => by
    rw [List.replicate_succ, List.replicate_succ, List.flatten_cons, List.flatten_cons]
    exact r.app (dats_rep r k)
instance roRep : RO rRep where
  run d1 d2 := match d1, d2 with
    | .list ds, .int k => if -(2 ^ 63) ≤ k ∧ k < 2 ^ 63 ∧ ds.length * k.toNat ≤ 100000 then some (.list (List.replicate k.toNat ds).flatten) else none
    | _, _ => none
  sd d1 d2 d h := by
    split at h
    · split at h
      · rename_i k hz
        cases h
        intro G H x y e h1 h2 Q q
        obtain ⟨a, xs, rfl, g, r⟩ := h1.inLst
        refine ⟨a, _, xs, rfl, h2.eqInt, e _ _ g, hz.1, hz.2.1, by rw [r.len]; exact Nat.le_trans hz.2.2 (by decide), fun p hp => ?_⟩
        have s := same_new (o := .lst (List.replicate (Int.toNat k) xs).flatten) hp
        exact q _ _ s (.lst (ext_new hp (e.free hp) upd_same) ((dats_rep r _).same ext_l))
      · cases h
    · cases h
end
end DL
end
section
set_option Elab.async false
set_option linter.all false
set_option maxRecDepth 100000
set_option maxHeartbeats 4000000
/-! RY: built-ins, arguments, calls, tests, iterators, comprehensions. -/
namespace DL
open PySem L2 GX PyProof.Rows
section
variable {C : Addr} {EX : XK} {te ta tb tk : TE} {tA tB' : TA} {tt tu : TT} {r : R2} {K : PySem.W.Frag}
/-! ### built-ins -/
def rMax2 : List V → Hp → VK → Prop := fun xs H Q => ∃ i j, xs = [V.int i, V.int j] ∧ Q (.int (if j > i then j else i)) H
def rMin2 : List V → Hp → VK → Prop := fun xs H Q => ∃ i j, xs = [V.int i, V.int j] ∧ Q (.int (if j < i then j else i)) H
def rAbs1 : List V → Hp → VK → Prop := fun xs H Q => ∃ i, xs = [V.int i] ∧ Q (.int (if i < 0 then -i else i)) H
def rInt1 : List V → Hp → VK → Prop := fun xs H Q => (∃ i, xs = [V.int i] ∧ Q (.int i) H) ∨ ∃ k, xs = [V.bl k] ∧ Q (.int (if k then 1 else 0)) H
def rLenQ (K : PySem.W.Frag) : List V → Hp → VK → Prop := fun xs H Q => ∃ p ys, xs = [V.ref p] ∧ (SqL K H p ys ∨ SqT K H p ys) ∧ Q (.int ys.length) H
def rListQ (K : PySem.W.Frag) : List V → Hp → VK → Prop := fun xs H Q => ∃ p ys, xs = [V.ref p] ∧ (SqL K H p ys ∨ SqT K H p ys) ∧ ∀ l, H l = none → Q (.ref l) (upd H l (.lst ys))
def rTupQ (K : PySem.W.Frag) : List V → Hp → VK → Prop := fun xs H Q => ∃ p ys, xs = [V.ref p] ∧ ((SqL K H p ys ∧ ∀ l, H l = none → Q (.ref l) (upd H l (.tup ys))) ∨ (SqT K H p ys ∧ Q (.ref p) H))
theorem cr_max2 {X : Cx} (hc : X.calm = true) : CallR X (.builtin "max") rMax2 := call_max2 hc
theorem cr_min2 {X : Cx} (hc : X.calm = true) : CallR X (.builtin "min") rMin2 := call_min2 hc
theorem cr_abs1 {X : Cx} : CallR X (.builtin "abs") rAbs1 := call_abs
theorem cr_int1 {X : Cx} : CallR X (.type "int") rInt1 := call_int1
theorem cr_lenQ {X : Cx} : CallR X (.builtin "len") (rLenQ X.K) := call_len_seq
theorem cr_listQ {X : Cx} : CallR X (.type "list") (rListQ X.K) := call_list_of
theorem cr_tupQ {X : Cx} : CallR X (.type "tuple") (rTupQ X.K) := call_tuple_of
instance rbMax : RB rMax2 where
  run ds := match ds with
    | [.int i, .int j] => some (.int (if j > i then j else i))
    | _ => none
  sd ds d h := by
    split at h
    · cases h; exact cld_max
    · cases h
instance rbMin : RB rMin2 where
  run ds := match ds with
    | [.int i, .int j] => some (.int (if j < i then j else i))
    | _ => none
  sd ds d h := by
    split at h
    · cases h; exact cld_min
    · cases h
instance rbAbs : RB rAbs1 where
  run ds := match ds with
    | [.int i] => some (.int (if i < 0 then -i else i))
    | _ => none
  sd ds d h := by
    split at h
    · cases h; exact cld_abs
    · cases h
instance rbInt : RB rInt1 where
  run ds := match ds with
    | [.int i] => some (.int i)
    | [.bool b] => some (.int (if b then 1 else 0))
    | _ => none
  sd ds d h := by
    split at h
    · cases h; exact cld_int
    · cases h; exact cld_intB
    · cases h
instance rbLen : RB (rLenQ K) where
  run ds := match ds with
    | [.list xs] => some (.int (xs.length : Int))
    | [.tuple xs] => some (.int (xs.length : Int))
    | [.dict kvs] => some (.int (kvs.length : Int))
    | _ => none
  sd ds d h := by
    split at h
    · cases h
      intro G H vs e r Q q
      cases r with
      | cons h r =>
        cases r
        obtain ⟨a, xs, rfl, g, r'⟩ := h.inLst
        exact ⟨a, xs, rfl, .inl (SqL.of (e _ _ g)), by rw [r'.len]; exact q _ H (Same.refl H) (.int _)⟩
    · cases h; exact cld_lenT
    · cases h
      intro G H vs e r Q q
      cases r with
      | cons h r =>
        cases r
        obtain ⟨a, o, ns, rfl, rfl, g⟩ := h.inFrz
        refine ⟨a, ns.map V.int, rfl, .inl (.inl (.inr ⟨o, e _ _ g⟩)), ?_⟩
        rw [List.length_map]
        have z := q _ H (Same.refl H) (.int ((ns.map fun i : Int => (PyData.int i, PyData.none)).length : Int))
        rw [List.length_map] at z
        exact z
    · cases h
instance rbList : RB (rListQ K) where
  run ds := match ds with
    | [.list xs] => some (.list xs)
    | [.tuple xs] => some (.list xs)
    | _ => none
  sd ds d h := by
    split at h
    · cases h
      intro G H vs e r Q q
      cases r with
      | cons h r =>
        cases r
        obtain ⟨a, xs, rfl, g, r'⟩ := h.inLst
        exact ⟨a, xs, rfl, .inl (SqL.of (e _ _ g)), fun l hl => q _ _ (same_new hl) (.lst (ext_new hl (e.free hl) upd_same) (r'.same ext_l))⟩
    · cases h; exact cld_listT
    · cases h
instance rbTup : RB (rTupQ K) where
  run ds := match ds with
    | [.list xs] => some (.tuple xs)
    | [.tuple xs] => some (.tuple xs)
    | _ => none
  sd ds d h := by
    split at h
    · cases h
      intro G H vs e r Q q
      cases r with
      | cons h r =>
        cases r
        obtain ⟨a, xs, rfl, g, r'⟩ := h.inLst
        exact ⟨a, xs, rfl, .inl ⟨SqL.of (e _ _ g), fun l hl => q _ _ (same_new hl) (.tup (ext_new hl (e.free hl) upd_same) (r'.same ext_l))⟩⟩
    · cases h
      intro G H vs e r Q q
      cases r with
      | cons h r =>
        cases r
        obtain ⟨a, xs, rfl, g, r'⟩ := h.inTup
        exact ⟨a, xs, rfl, .inr ⟨SqT.of (e _ _ g), q _ _ (Same.refl H) (.tup (ext_l _ _ g) (r'.same ext_l))⟩⟩
    · cases h
/-! sorted -/
def insB {α : Type} (lt : α → α → Bool) (x : α) : List α → List α
  | [] => [x]
  | y :: ys => if lt y x then y :: insB lt x ys else x :: y :: ys
def srtB {α : Type} (lt : α → α → Bool) : List α → List α
  | [] => []
  | x :: xs => insB lt x (srtB lt xs)
theorem insB_perm {α : Type} {lt : α → α → Bool} {x : α} : ∀ l : List α, (insB lt x l).Perm (x :: l)
  | [] => List.Perm.refl _
  | y :: ys => by
    unfold insB
    split
    · exact ((insB_perm ys).cons y).trans (List.Perm.swap x y ys)
    · exact List.Perm.refl _
theorem srtB_perm {α : Type} {lt : α → α → Bool} : ∀ l : List α, (srtB lt l).Perm l
  | [] => List.Perm.refl _
  | x :: xs => (insB_perm _).trans ((srtB_perm xs).cons x)
theorem insB_pw {α : Type} {lt : α → α → Bool} (as : ∀ a b, lt a b = true → lt b a = false) (tr : ∀ a b c, lt b a = false → lt c b = false → lt c a = false) {x : α} : ∀ l : List α, l.Pairwise (fun a b => lt b a = false) → (insB lt x l).Pairwise (fun a b => lt b a = false)
  | [], _ => List.pairwise_singleton _ _
  | y :: ys, h => by
    have hy := List.pairwise_cons.mp h
    unfold insB
    split
    · rename_i hl
      refine List.pairwise_cons.mpr ⟨fun z hz => ?_, insB_pw as tr ys hy.2⟩
      rcases List.mem_cons.mp ((insB_perm ys).mem_iff.mp hz) with e | hz
      · rw [e]; exact as _ _ hl
      · exact hy.1 z hz
    · rename_i hl
      have hl : lt y x = false := by simpa using hl
      refine List.pairwise_cons.mpr ⟨fun z hz => ?_, h⟩
      rcases List.mem_cons.mp hz with e | hz
      · rw [e]; exact hl
      · exact tr _ _ _ hl (hy.1 z hz)
theorem srtB_pw {α : Type} {lt : α → α → Bool} (as : ∀ a b, lt a b = true → lt b a = false) (tr : ∀ a b c, lt b a = false → lt c b = false → lt c a = false) : ∀ l : List α, (srtB lt l).Pairwise (fun a b => lt b a = false)
  | [] => List.Pairwise.nil
  | x :: xs => insB_pw as tr _ (srtB_pw as tr xs)
def ltI (a b : Int) : Bool := decide (a < b)
theorem srtI_eq {l m : List Int} (p : l.Perm m) (s : l.Pairwise (· ≤ ·)) : l = srtB ltI m := by
  refine List.Perm.eq_of_pairwise (le := (· ≤ ·)) (fun a b _ _ h1 h2 => by omega) s ?_ (p.trans (srtB_perm m).symm)
  refine (srtB_pw (lt := ltI) (fun a b h => ?_) (fun a b c h1 h2 => ?_) m).imp fun {a b} h => ?_
  · simp only [ltI, decide_eq_true_eq, decide_eq_false_iff_not] at *; omega
  · simp only [ltI, decide_eq_false_iff_not] at *; omega
  · simp only [ltI, decide_eq_false_iff_not] at *; omega
theorem srtP_eq {l m : List (Int × Int)} (p : l.Perm m) (s : l.Pairwise fun a b => SrtO.lexB b a = false) : l = srtB SrtO.lexB m := by
  refine List.Perm.eq_of_pairwise (le := fun a b => SrtO.lexB b a = false) (fun a b _ _ h1 h2 => ?_) s ?_ (p.trans (srtB_perm m).symm)
  · have h1 := SrtO.lexB_no.mp h1
    have h2 := SrtO.lexB_no.mp h2
    obtain ⟨a1, a2⟩ := a
    obtain ⟨b1, b2⟩ := b
    simp only [Prod.mk.injEq] at *
    omega
  · refine srtB_pw (fun a b h => ?_) (fun a b c h1 h2 => ?_) m
    · have h := SrtO.lexB_iff.mp h
      refine SrtO.lexB_no.mpr ?_
      omega
    · have h1 := SrtO.lexB_no.mp h1
      have h2 := SrtO.lexB_no.mp h2
      refine SrtO.lexB_no.mpr ?_
      omega
def dIs : List PyData → Option (List Int)
  | [] => some []
  | .int i :: ds => (dIs ds).map (i :: ·)
  | _ => none
theorem dIs_eq {G : Hp} : ∀ {ns : List Int} {xs : List V} {ds : List PyData}, dIs ds = some ns → Dats G xs ds → xs = ns.map V.int
  | ns, _, [], h, .nil => by simp only [dIs, Option.some.injEq] at h; subst h; rfl
  | ns, _, d :: ds, h, .cons h1 h2 => by
    cases d with
    | int i =>
      simp only [dIs] at h
      cases e : dIs ds with
      | none => rw [e] at h; cases h
      | some ms =>
        rw [e] at h
        cases h
        rw [h1.eqInt, dIs_eq e h2]
        rfl
    | _ => simp [dIs] at h
theorem dats_ints {G : Hp} : ∀ ns : List Int, Dats G (ns.map V.int) (ns.map PyData.int)
  | [] => .nil
  | n :: ns => .cons (.int n) (dats_ints ns)
instance rbSortI : RB (rSortedI K) where
  run ds := match ds with
    | [.list xs] => (dIs xs).map fun ns => .list ((srtB ltI ns).map PyData.int)
    | _ => none
  sd ds d h := by
    split at h
    · rename_i xs0
      cases e : dIs xs0 with
      | none => rw [e] at h; cases h
      | some ns =>
        rw [e] at h
        cases h
        intro G H vs eg r Q q
        cases r with
        | cons h r =>
          cases r
          obtain ⟨a, xs, rfl, g, r'⟩ := h.inLst
          have ex := dIs_eq e r'
          subst ex
          refine ⟨a, ns, rfl, SqL.of (eg _ _ g), fun ns' p hp hs hn => ?_⟩
          rw [srtI_eq hp hs]
          exact q _ _ (same_new hn) (.lst (ext_new hn (eg.free hn) upd_same) (dats_ints _))
    · cases h
def dPs : List PyData → Option (List (Int × Int))
  | [] => some []
  | .tuple [.int i, .int j] :: ds => (dPs ds).map ((i, j) :: ·)
  | _ => none
def pD (p : Int × Int) : PyData := .tuple [.int p.1, .int p.2]
def kG (G : Hp) : V → Int × Int
  | .ref t => match G t with
    | some (.tup [.int i, .int j]) => (i, j)
    | _ => (0, 0)
  | _ => (0, 0)
theorem dPs_eq {G : Hp} : ∀ {ps : List (Int × Int)} {xs : List V} {ds : List PyData}, dPs ds = some ps → Dats G xs ds → xs.map (kG G) = ps ∧ ∀ x ∈ xs, ∃ t, x = V.ref t ∧ G t = some (.tup [.int (kG G x).1, .int (kG G x).2])
  | ps, _, [], h, .nil => by simp only [dPs, Option.some.injEq] at h; subst h; exact ⟨rfl, fun x hx => by cases hx⟩
  | ps, x :: xs, d :: ds, h, .cons h1 h2 => by
    unfold dPs at h
    split at h
    · rename_i e; cases e
    · rename_i i j ds' e
      cases e
      cases e2 : dPs ds with
      | none => rw [e2] at h; cases h
      | some ms =>
        rw [e2] at h
        cases h
        obtain ⟨z1, z2⟩ := dPs_eq e2 h2
        obtain ⟨t, ys, rfl, g, r⟩ := h1.inTup
        cases r with
        | cons a1 r =>
          cases r with
          | cons a2 r =>
            cases r
            rw [a1.eqInt, a2.eqInt] at g
            have kx : kG G (.ref t) = (i, j) := by simp only [kG, g]
            refine ⟨by rw [List.map_cons, kx, z1], fun x hx => ?_⟩
            rcases List.mem_cons.mp hx with e | hx
            · rw [e]; exact ⟨t, rfl, by rw [kx]; exact g⟩
            · exact z2 x hx
    · cases h
theorem dats_pairs {G : Hp} : ∀ {xs : List V}, (∀ x ∈ xs, ∃ t, x = V.ref t ∧ G t = some (.tup [.int (kG G x).1, .int (kG G x).2])) → Dats G xs ((xs.map (kG G)).map pD)
  | [], _ => .nil
  | x :: xs, h => by
    obtain ⟨t, e, g⟩ := h x List.mem_cons_self
    refine .cons ?_ (dats_pairs fun y hy => h y (List.mem_cons_of_mem _ hy))
    have := Dat.tup (G := G) g (.cons (.int _) (.cons (.int _) .nil))
    rw [← e] at this
    exact this
instance rbSortP : RB (rSortedPO K) where
  run ds := match ds with
    | [.list xs] => (dPs xs).map fun ps => .list ((srtB SrtO.lexB ps).map pD)
    | _ => none
  sd ds d h := by
    split at h
    · rename_i xs0
      cases e : dPs xs0 with
      | none => rw [e] at h; cases h
      | some ps =>
        rw [e] at h
        cases h
        intro G H vs eg r Q q
        cases r with
        | cons h r =>
          cases r
          obtain ⟨a, xs, rfl, g, r'⟩ := h.inLst
          obtain ⟨z1, z2⟩ := dPs_eq e r'
          refine ⟨a, xs, kG G, rfl, SqL.of (eg _ _ g), fun x hx => ?_, fun ys p hs hb hn => ?_⟩
          · obtain ⟨t, e1, e2⟩ := z2 x hx
            exact ⟨t, e1, eg _ _ e2⟩
          · have pm : (ys.map (kG G)).Perm ps := by rw [← z1]; exact hb.perm.map _
            have sr : (ys.map (kG G)).Pairwise fun a b => SrtO.lexB b a = false := List.pairwise_map.mpr hs
            refine q _ _ (same_new hn) (.lst (xs := ys) (ext_new hn (eg.free hn) upd_same) ?_)
            rw [← srtP_eq pm sr]
            refine (dats_pairs (G := G) fun x hx => ?_).same ext_l
            exact z2 x (hb.perm.mem_iff.mp hx)
    · cases h
/-! ### arguments, displays, calls -/
instance raNil : RA C EX tNil where
  run _ := .ok []
  sd _ := eva_nil
instance raCons [a : RE C EX te] [b : RA C EX tA] : RA C EX (tCons te tA) where
  run δ := (a.run δ).bd fun d => (b.run δ).bd fun ds => .ok (d :: ds)
  sd δ := by
    have ha := a.sd δ
    have hb := b.sd δ
    show SdA C EX _ δ ((a.run δ).bd fun d => (b.run δ).bd fun ds => .ok (d :: ds))
    revert ha hb
    cases a.run δ with
    | bad => intro _ _; trivial
    | ex n => intro ha _; exact fun B G H σ e1 e2 E x Q => ha B G H σ e1 e2 E x _
    | ok d1 =>
      cases b.run δ with
      | bad => intro _ _; trivial
      | ex n => intro ha hb; exact fun B G H σ e1 e2 E x Q => ha B G H σ e1 e2 E _ fun v H1 s1 r1 => hb B (ext G H H1) H1 σ (ext_r e1 s1) (e2.trans s1) (E.step s1) (x.on s1) _
      | ok d2 => intro ha hb; exact eva_cons ha hb
instance reTup [a : RA C EX tA] : RE C EX (tTup tA) where
  run δ := (a.run δ).bd fun ds => if ds.length ≤ 100000 then .ok (.tuple ds) else .bad
  sd δ := by
    have ha := a.sd δ
    show Sd C EX _ δ ((a.run δ).bd fun ds => if ds.length ≤ 100000 then .ok (.tuple ds) else .bad)
    revert ha
    cases a.run δ with
    | bad => intro _; trivial
    | ex n => intro ha; exact fun B G H σ e1 e2 E x Q => ha B G H σ e1 e2 E x _
    | ok ds =>
      intro ha
      show Sd C EX _ δ (if ds.length ≤ 100000 then .ok (.tuple ds) else .bad)
      split
      · rename_i hz; exact eve_tup ha hz
      · trivial
instance reLst [a : RA C EX tA] : RE C EX (tLst tA) where
  run δ := (a.run δ).bd fun ds => if ds.length ≤ 100000 then .ok (.list ds) else .bad
  sd δ := by
    have ha := a.sd δ
    show Sd C EX _ δ ((a.run δ).bd fun ds => if ds.length ≤ 100000 then .ok (.list ds) else .bad)
    revert ha
    cases a.run δ with
    | bad => intro _; trivial
    | ex n => intro ha; exact fun B G H σ e1 e2 E x Q => ha B G H σ e1 e2 E x _
    | ok ds =>
      intro ha
      show Sd C EX _ δ (if ds.length ≤ 100000 then .ok (.list ds) else .bad)
      split
      · rename_i hz; exact eve_lst ha hz
      · trivial
instance reCB {rb : List V → Hp → VK → Prop} [a : RA C EX tA] [o : RB rb] : RE C EX (tCB rb tA) where
  run δ := (a.run δ).bd fun ds => ofO (o.run ds)
  sd δ := by
    have ha := a.sd δ
    show Sd C EX _ δ ((a.run δ).bd fun ds => ofO (o.run ds))
    revert ha
    cases a.run δ with
    | bad => intro _; trivial
    | ex n => intro ha; exact fun B G H σ e1 e2 E x Q => ha B G H σ e1 e2 E x _
    | ok ds =>
      intro ha
      show Sd C EX _ δ (ofO (o.run ds))
      cases h : o.run ds with
      | none => trivial
      | some d => exact eve_cb ha (o.sd ds d h)
/-- isinstance of data, a built-in type -/
def tyD : PyData → String
  | .none => "NoneType"
  | .bool _ => "bool"
  | .int _ => "int"
  | .str _ => "str"
  | .list _ => "list"
  | .tuple _ => "tuple"
  | .dict _ => "list"
def isiD (d : PyData) (T : String) : Bool := tyD d == T || (tyD d == "bool" && T == "int")
def KitT (K : PySem.W.Frag) (T : String) : Prop := ∀ t ∈ ["NoneType", "bool", "int", "str", "list", "tuple"], PySem.W.kitOne K (.type t) (.type T) = some (t == T || (t == "bool" && T == "int"))
theorem tyD_of {G : Hp} {v : V} {d : PyData} (h : Dat G v d) : TyOf K G v (.type (tyD d)) ∧ tyD d ∈ ["NoneType", "bool", "int", "str", "list", "tuple"] := by
  cases h with
  | non => exact ⟨.non, by decide⟩
  | bl b => exact ⟨.bl b, by simp [tyD]⟩
  | int i => exact ⟨.int i, by simp [tyD]⟩
  | str x => exact ⟨.str x, by simp [tyD]⟩
  | lst g r => exact ⟨.lst g, by simp [tyD]⟩
  | tup g r => exact ⟨.tup g, by simp [tyD]⟩
  | frz _ g => exact ⟨.frz g, by simp [tyD]⟩
class KitC (K : PySem.W.Frag) (T : String) : Prop where
  kit : KitT K T
instance reIsi {T : String} [k : KitC K T] [a : RE C EX te] : RE C EX (tCB (rIsi K) (tCons te (tCons (tC (.ty T)) tNil))) where
  run δ := (a.run δ).bd fun d => .ok (.bool (isiD d T))
  sd δ := by
    have ha := a.sd δ
    show Sd C EX _ δ ((a.run δ).bd fun d => .ok (.bool (isiD d T)))
    revert ha
    cases a.run δ with
    | bad => intro _; trivial
    | ex n => intro ha; exact fun B G H σ e1 e2 E x Q => ha B G H σ e1 e2 E x _
    | ok d =>
      intro ha
      refine fun B G H σ e1 e2 E Q q => ha B G H σ e1 e2 E _ fun v H1 s1 r1 => ?_
      obtain ⟨z1, z2⟩ := tyD_of (K := K) (r1.same (ext_r e1 s1))
      exact ⟨v, .ty T, _, _, _, rfl, .ty T, .base z1, k.kit _ z2, q _ H1 s1 (.bl _)⟩
/-- what a def computes: data, or the error -/
abbrev PF := List PyData → Rn PyData
/-- a call may let out the error of the class at C alone -/
def EC (C : Addr) (EX : XK) : XK := fun cls d H => cls = .ref C ∧ EX cls d H
theorem XT.ec {H : Hp} {n : Int} (x : XT C EX H n) : XT C (EC C EX) H n := fun dd H' s e => ⟨rfl, x dd H' s e⟩
/-- THE PROMISE of a def that computes f -/
def spF (C : Addr) (n : Nat) (f : PF) : Sp := fun vs H Q E => ∃ ds G, ds.length = n ∧ Same G H ∧ Dats G vs ds ∧ match f ds with
  | .bad => False
  | .ok d => ∀ v H', Same H H' → Dat (ext G H H') v d → Q v H'
  | .ex m => XT C E H m
theorem spF_len {n : Nat} {f : PF} (vs : List V) (H : Hp) (Q : VK) (E : XK) (h : spF C n f vs H Q E) : vs.length = n := by
  obtain ⟨ds, G, h1, _, r, _⟩ := h
  rw [r.len, h1]
def runF (n : Nat) (f : PF) (ds : List PyData) : Rn PyData := if ds.length = n then f ds else .bad
theorem dVs_dats {G : Hp} : ∀ {vs : List V} {ds : List PyData}, vs.map vD = ds.map some → Dats G vs ds
  | [], [], _ => .nil
  | [], _ :: _, h => by simp at h
  | _ :: _, [], h => by simp at h
  | v :: vs, d :: ds, h => by
    simp only [List.map_cons, List.cons.injEq] at h
    exact .cons (vD_dat h.1) (dVs_dats h.2)
def vDs : List V → Option (List PyData)
  | [] => some []
  | v :: vs => match vD v, vDs vs with
    | some d, some ds => some (d :: ds)
    | _, _ => none
theorem vDs_dats {G : Hp} : ∀ {vs : List V} {ds : List PyData}, vDs vs = some ds → Dats G vs ds
  | [], ds, h => by simp only [vDs, Option.some.injEq] at h; subst h; exact .nil
  | v :: vs, ds, h => by
    unfold vDs at h
    split at h
    · rename_i d es e1 e2
      cases h
      exact .cons (vD_dat e1) (vDs_dats e2)
    · cases h
def runD (n : Nat) (f : PF) (dvs : List V) (ds : List PyData) : Rn PyData := match vDs dvs with
  | some es => runF n f (ds ++ es)
  | none => .bad
instance reCall {n : Nat} {f : PF} {dvs : List V} [a : RA C EX tA] : RE C EX (tCall (spF C n f) dvs (EC C EX) tA) where
  run δ := (a.run δ).bd fun ds => runD n f dvs ds
  sd δ := by
    have ha := a.sd δ
    show Sd C EX _ δ ((a.run δ).bd fun ds => runD n f dvs ds)
    revert ha
    cases a.run δ with
    | bad => intro _; trivial
    | ex n => intro ha; exact fun B G H σ e1 e2 E x Q => ha B G H σ e1 e2 E x _
    | ok ds =>
      intro ha
      show Sd C EX _ δ (runD n f dvs ds)
      unfold runD
      cases hd : vDs dvs with
      | none => trivial
      | some es =>
        show Sd C EX _ δ (runF n f (ds ++ es))
        unfold runF
        split
        · rename_i hn
          cases hf : f (ds ++ es) with
          | bad => trivial
          | ok d =>
            refine fun B G H σ e1 e2 E Q q => ha B G H σ e1 e2 E _ fun vs H1 s1 r1 => ⟨ds ++ es, ext G H H1, hn, ext_r e1 s1, r1.app (vDs_dats hd), ?_⟩
            rw [hf]
            intro v H2 s2 r2
            rw [ext_ext s1 s2] at r2
            exact q v H2 (s1.trans s2) r2
          | ex m =>
            refine fun B G H σ e1 e2 E x Q => ha B G H σ e1 e2 E _ fun vs H1 s1 r1 => ⟨ds ++ es, ext G H H1, hn, ext_r e1 s1, r1.app (vDs_dats hd), ?_⟩
            rw [hf]
            exact (x.on s1).ec
        · trivial
/-- the call within a comprehension: it lets nothing out -/
instance reCall0 {n : Nat} {f : PF} {dvs : List V} [a : RA C EX tA] : RE C EX (tCall (spF C n f) dvs E0 tA) where
  run δ := match (a.run δ).bd fun ds => runD n f dvs ds with
    | .ok d => .ok d
    | _ => .bad
  sd δ := by
    have ha := a.sd δ
    revert ha
    cases a.run δ with
    | bad => intro _; trivial
    | ex n => intro _; trivial
    | ok ds =>
      intro ha
      show Sd C EX _ δ (match runD n f dvs ds with | .ok d => .ok d | _ => .bad)
      unfold runD
      cases hd : vDs dvs with
      | none => trivial
      | some es =>
        show Sd C EX _ δ (match runF n f (ds ++ es) with | .ok d => .ok d | _ => .bad)
        unfold runF
        by_cases hn : (ds ++ es).length = n
        · rw [if_pos hn]
          cases hf : f (ds ++ es) with
          | bad => trivial
          | ok d =>
            refine fun B G H σ e1 e2 E Q q => ha B G H σ e1 e2 E _ fun vs H1 s1 r1 => ⟨ds ++ es, ext G H H1, hn, ext_r e1 s1, r1.app (vDs_dats hd), ?_⟩
            rw [hf]
            intro v H2 s2 r2
            rw [ext_ext s1 s2] at r2
            exact q v H2 (s1.trans s2) r2
          | ex m => trivial
        · rw [if_neg hn]
          trivial
/-- f(e, .., k = v, ..): the keywords' values behind -/
instance reCallN {n l1 l2 : Nat} {f : PF} [a : RA C EX tA] [b : RA C EX tB'] : RE C EX (tCallN l1 l2 (spF C n f) (fun vs zs => vs ++ zs) (EC C EX) tA tB') where
  run δ := (a.run δ).bd fun ds => (b.run δ).bd fun es => if ds.length = l1 ∧ es.length = l2 then runF n f (ds ++ es) else .bad
  sd δ := by
    have ha := a.sd δ
    have hb := b.sd δ
    show Sd C EX _ δ ((a.run δ).bd fun ds => (b.run δ).bd fun es => if ds.length = l1 ∧ es.length = l2 then runF n f (ds ++ es) else .bad)
    revert ha hb
    cases a.run δ with
    | bad => intro _ _; trivial
    | ex n => intro ha _; exact fun B G H σ e1 e2 E x Q => ha B G H σ e1 e2 E x _
    | ok ds =>
      cases b.run δ with
      | bad => intro _ _; trivial
      | ex n => intro ha hb; exact fun B G H σ e1 e2 E x Q => ha B G H σ e1 e2 E _ fun v H1 s1 r1 => hb B (ext G H H1) H1 σ (ext_r e1 s1) (e2.trans s1) (E.step s1) (x.on s1) _
      | ok es =>
        intro ha hb
        show Sd C EX _ δ (if ds.length = l1 ∧ es.length = l2 then runF n f (ds ++ es) else .bad)
        split
        · rename_i hl
          unfold runF
          split
          · rename_i hn
            cases hf : f (ds ++ es) with
            | bad => trivial
            | ok d =>
              refine fun B G H σ e1 e2 E Q q => ha B G H σ e1 e2 E _ fun vs H1 s1 r1 => hb B (ext G H H1) H1 σ (ext_r e1 s1) (e2.trans s1) (E.step s1) _ fun zs H2 s2 r2 => ?_
              rw [ext_ext s1 s2] at r2
              have s12 := s1.trans s2
              have r1' : Dats (ext G H H2) vs ds := r1.same (by rw [← ext_ext s1 s2]; exact ext_l)
              refine ⟨by rw [r1.len]; exact hl.1, by rw [r2.len]; exact hl.2, ds ++ es, ext G H H2, hn, ext_r e1 s12, r1'.app r2, ?_⟩
              rw [hf]
              intro v H3 s3 r3
              rw [ext_ext s12 s3] at r3
              exact q v H3 (s12.trans s3) r3
            | ex m =>
              refine fun B G H σ e1 e2 E x Q => ha B G H σ e1 e2 E _ fun vs H1 s1 r1 => hb B (ext G H H1) H1 σ (ext_r e1 s1) (e2.trans s1) (E.step s1) _ fun zs H2 s2 r2 => ?_
              rw [ext_ext s1 s2] at r2
              have s12 := s1.trans s2
              have r1' : Dats (ext G H H2) vs ds := r1.same (by rw [← ext_ext s1 s2]; exact ext_l)
              refine ⟨by rw [r1.len]; exact hl.1, by rw [r2.len]; exact hl.2, ds ++ es, ext G H H2, hn, ext_r e1 s12, r1'.app r2, ?_⟩
              rw [hf]
              exact (x.on s12).ec
          · trivial
        · trivial
end
end DL
end
section
set_option Elab.async false
set_option linter.all false
set_option maxRecDepth 100000
set_option maxHeartbeats 4000000
/-! RZ: tests, slices, iterators, comprehensions, frozen reads. -/
namespace DL
open PySem L2 GX PyProof.Rows
section
variable {C : Addr} {EX : XK} {te ta tb tk : TE} {tA tB' : TA} {tt tu : TT} {r : R2} {K : PySem.W.Frag}
/-! ### tests -/
def toB : PyData → Rn Bool
  | .bool b => .ok b
  | _ => .bad
theorem sdT_test {δ : List Sl} {x : Rn PyData} (h : Sd C EX te δ x) : SdT C EX (tTest te) δ (x.bd toB) := by
  cases x with
  | bad => trivial
  | ex n => exact fun B G H σ e1 e2 E x Q => h B G H σ e1 e2 E x _
  | ok d =>
    cases d with
    | bool b => exact evt_test h
    | _ => trivial
theorem sdT_B {δ : List Sl} {x : Rn PyData} (h : Sd C EX te δ x) : SdT C EX (tB te) δ (x.bd toB) := by
  cases x with
  | bad => trivial
  | ex n => exact fun B G H σ e1 e2 E x Q => h B G H σ e1 e2 E x _
  | ok d =>
    cases d with
    | bool b => exact evt_B h
    | _ => trivial
instance rtTest [a : RE C EX te] : RT C EX (tTest te) where
  run δ := (a.run δ).bd toB
  sd δ := sdT_test (a.sd δ)
instance rtB [a : RE C EX te] : RT C EX (tB te) where
  run δ := (a.run δ).bd toB
  sd δ := sdT_B (a.sd δ)
/-- the truth of a value -/
def tTru (K : PySem.W.Frag) (te : TE) : TT := fun σ H Q => te σ H fun x H' => ∃ k, TruV K x H' k ∧ Q k H'
theorem pt_tru {X : Cx} {a : Expr} (ha : PE X a ta) (he : ∀ whole, isTrue a X.env whole = (do let v ← whole; standAt a.pos; holding [v] (truthy v))) : PT X a (tTru X.K ta) := pt_truth ha he
def truD : PyData → Option Bool
  | .list ds => some (!ds.isEmpty)
  | .tuple ds => some (!ds.isEmpty)
  | .bool b => some b
  | .none => some false
  | .int i => some (i != 0)
  | _ => none
theorem dats_emp {G : Hp} {xs : List V} {ds : List PyData} (r : Dats G xs ds) : (!xs.isEmpty) = !ds.isEmpty := by cases r <;> rfl
instance rtTru [a : RE C EX te] : RT C EX (tTru K te) where
  run δ := (a.run δ).bd fun d => ofO (truD d)
  sd δ := by
    have ha := a.sd δ
    show SdT C EX _ δ ((a.run δ).bd fun d => ofO (truD d))
    revert ha
    cases a.run δ with
    | bad => intro _; trivial
    | ex n => intro ha; exact fun B G H σ e1 e2 E x Q => ha B G H σ e1 e2 E x _
    | ok d =>
      intro ha
      show SdT C EX _ δ (ofO (truD d))
      cases h : truD d with
      | none => trivial
      | some b =>
        refine fun B G H σ e1 e2 E Q q => ha B G H σ e1 e2 E _ fun v H1 s1 r1 => ⟨b, ?_, q H1 s1⟩
        cases r1 with
        | lst g r => simp only [truD, Option.some.injEq] at h; exact .inl ⟨_, SqL.of (ext_r e1 s1 _ _ g), by rw [← h, dats_emp r]⟩
        | tup g r => simp only [truD, Option.some.injEq] at h; exact .inr (.inl ⟨_, SqT.of (ext_r e1 s1 _ _ g), by rw [← h, dats_emp r]⟩)
        | bl => simp only [truD, Option.some.injEq] at h; exact h.symm
        | non => simp only [truD, Option.some.injEq] at h; exact h.symm
        | int => simp only [truD, Option.some.injEq] at h; exact h.symm
        | str => simp [truD] at h
        | frz => simp [truD] at h
instance rtYes : RT C EX tYes where
  run _ := .ok true
  sd _ := evt_yes
instance rtAnd [a : RT C EX tt] [b : RT C EX tu] : RT C EX (tAnd tt tu) where
  run δ := (a.run δ).bd fun x => if x then b.run δ else .ok false
  sd δ := by
    have ha := a.sd δ
    have hb := b.sd δ
    show SdT C EX _ δ ((a.run δ).bd fun x => if x then b.run δ else .ok false)
    revert ha hb
    cases a.run δ with
    | bad => intro _ _; trivial
    | ex n => intro ha _; exact fun B G H σ e1 e2 E x Q => ha B G H σ e1 e2 E x _
    | ok x =>
      cases x with
      | false => intro ha hb; exact evt_and (b := false) ha (fun h => by cases h)
      | true =>
        show _ → _ → SdT C EX _ δ (b.run δ)
        cases b.run δ with
        | bad => intro _ _; trivial
        | ex n => intro ha hb; exact fun B G H σ e1 e2 E x Q => ha B G H σ e1 e2 E _ fun H1 s1 => by rw [if_pos rfl]; exact hb B (ext G H H1) H1 σ (ext_r e1 s1) (e2.trans s1) (E.step s1) (x.on s1) _
        | ok y => intro ha hb; exact evt_and (a := true) ha (fun _ => hb)
instance rtOr [a : RT C EX tt] [b : RT C EX tu] : RT C EX (tOr tt tu) where
  run δ := (a.run δ).bd fun x => if x then .ok true else b.run δ
  sd δ := by
    have ha := a.sd δ
    have hb := b.sd δ
    show SdT C EX _ δ ((a.run δ).bd fun x => if x then .ok true else b.run δ)
    revert ha hb
    cases a.run δ with
    | bad => intro _ _; trivial
    | ex n => intro ha _; exact fun B G H σ e1 e2 E x Q => ha B G H σ e1 e2 E x _
    | ok x =>
      cases x with
      | true => intro ha hb; exact evt_or (b := false) ha (fun h => by cases h)
      | false =>
        show _ → _ → SdT C EX _ δ (b.run δ)
        cases b.run δ with
        | bad => intro _ _; trivial
        | ex n => intro ha hb; exact fun B G H σ e1 e2 E x Q => ha B G H σ e1 e2 E _ fun H1 s1 => by rw [if_neg Bool.false_ne_true]; exact hb B (ext G H H1) H1 σ (ext_r e1 s1) (e2.trans s1) (E.step s1) (x.on s1) _
        | ok y => intro ha hb; exact evt_or (a := false) ha (fun _ => hb)
instance rtNot [a : RT C EX tt] : RT C EX (tNot tt) where
  run δ := (a.run δ).bd fun x => .ok (!x)
  sd δ := by
    have ha := a.sd δ
    show SdT C EX _ δ ((a.run δ).bd fun x => .ok (!x))
    revert ha
    cases a.run δ with
    | bad => intro _; trivial
    | ex n => intro ha; exact fun B G H σ e1 e2 E x Q => ha B G H σ e1 e2 E x _
    | ok x => intro ha; exact evt_not ha
def bB : Rn Bool → Rn PyData := fun x => x.bd fun b => .ok (.bool b)
instance reAndV [a : RE C EX ta] [b : RE C EX tb] : RE C EX (tAndV ta tb) where
  run δ := ((a.run δ).bd toB).bd fun x => if x then bB ((b.run δ).bd toB) else .ok (.bool false)
  sd δ := by
    have ha := a.sd δ
    have hb := b.sd δ
    show Sd C EX _ δ (((a.run δ).bd toB).bd fun x => if x then bB ((b.run δ).bd toB) else .ok (.bool false))
    revert ha hb
    cases a.run δ with
    | bad => intro _ _; trivial
    | ex n => intro ha _; exact fun B G H σ e1 e2 E x Q => ha B G H σ e1 e2 E x _
    | ok d =>
      cases d with
      | bool x =>
        cases x with
        | false => intro ha hb; exact eve_andV (b := false) ha (fun h => by cases h)
        | true =>
          show _ → _ → Sd C EX _ δ (bB ((b.run δ).bd toB))
          cases b.run δ with
          | bad => intro _ _; trivial
          | ex n => intro ha hb; exact fun B G H σ e1 e2 E x Q => ha B G H σ e1 e2 E _ fun v H1 s1 r => ⟨true, r.eqBool, by rw [if_pos rfl]; exact hb B (ext G H H1) H1 σ (ext_r e1 s1) (e2.trans s1) (E.step s1) (x.on s1) _⟩
          | ok y =>
            cases y with
            | bool y => intro ha hb; exact eve_andV (a := true) (b := y) ha (fun _ => hb)
            | _ => intro _ _; trivial
      | _ => intro _ _; trivial
instance reOrV [a : RE C EX ta] [b : RE C EX tb] : RE C EX (tOrV ta tb) where
  run δ := ((a.run δ).bd toB).bd fun x => if x then .ok (.bool true) else bB ((b.run δ).bd toB)
  sd δ := by
    have ha := a.sd δ
    have hb := b.sd δ
    show Sd C EX _ δ (((a.run δ).bd toB).bd fun x => if x then .ok (.bool true) else bB ((b.run δ).bd toB))
    revert ha hb
    cases a.run δ with
    | bad => intro _ _; trivial
    | ex n => intro ha _; exact fun B G H σ e1 e2 E x Q => ha B G H σ e1 e2 E x _
    | ok d =>
      cases d with
      | bool x =>
        cases x with
        | true => intro ha hb; exact eve_orV (b := false) ha (fun h => by cases h)
        | false =>
          show _ → _ → Sd C EX _ δ (bB ((b.run δ).bd toB))
          cases b.run δ with
          | bad => intro _ _; trivial
          | ex n => intro ha hb; exact fun B G H σ e1 e2 E x Q => ha B G H σ e1 e2 E _ fun v H1 s1 r => ⟨false, r.eqBool, by rw [if_neg Bool.false_ne_true]; exact hb B (ext G H H1) H1 σ (ext_r e1 s1) (e2.trans s1) (E.step s1) (x.on s1) _⟩
          | ok y =>
            cases y with
            | bool y => intro ha hb; exact eve_orV (a := false) (b := y) ha (fun _ => hb)
            | _ => intro _ _; trivial
      | _ => intro _ _; trivial
instance reNotV [a : RE C EX ta] : RE C EX (tNotV ta) where
  run δ := ((a.run δ).bd toB).bd fun x => .ok (.bool (!x))
  sd δ := by
    have ha := a.sd δ
    show Sd C EX _ δ (((a.run δ).bd toB).bd fun x => .ok (.bool (!x)))
    revert ha
    cases a.run δ with
    | bad => intro _; trivial
    | ex n => intro ha; exact fun B G H σ e1 e2 E x Q => ha B G H σ e1 e2 E x _
    | ok d =>
      cases d with
      | bool x => intro ha; exact eve_notV ha
      | _ => intro _; trivial
instance reIf [c : RT C EX tt] [a : RE C EX ta] [b : RE C EX tb] : RE C EX (tIf tt ta tb) where
  run δ := (c.run δ).bd fun x => if x then a.run δ else b.run δ
  sd δ := by
    have hc := c.sd δ
    have ha := a.sd δ
    have hb := b.sd δ
    show Sd C EX _ δ ((c.run δ).bd fun x => if x then a.run δ else b.run δ)
    revert hc ha hb
    cases c.run δ with
    | bad => intro _ _ _; trivial
    | ex n => intro hc _ _; exact fun B G H σ e1 e2 E x Q => hc B G H σ e1 e2 E x _
    | ok x =>
      cases x with
      | true =>
        show _ → _ → _ → Sd C EX _ δ (a.run δ)
        cases a.run δ with
        | bad => intro _ _ _; trivial
        | ex n => intro hc ha hb; exact fun B G H σ e1 e2 E x Q => hc B G H σ e1 e2 E _ fun H1 s1 => by rw [if_pos rfl]; exact ha B (ext G H H1) H1 σ (ext_r e1 s1) (e2.trans s1) (E.step s1) (x.on s1) _
        | ok d => intro hc ha hb; exact eve_if hc (fun _ => ha) (fun h => by cases h)
      | false =>
        show _ → _ → _ → Sd C EX _ δ (b.run δ)
        cases b.run δ with
        | bad => intro _ _ _; trivial
        | ex n => intro hc ha hb; exact fun B G H σ e1 e2 E x Q => hc B G H σ e1 e2 E _ fun H1 s1 => by rw [if_neg Bool.false_ne_true]; exact hb B (ext G H H1) H1 σ (ext_r e1 s1) (e2.trans s1) (E.step s1) (x.on s1) _
        | ok d => intro hc ha hb; exact eve_if hc (fun h => by cases h) (fun _ => hb)
/-! ### slices of lists -/
def EvO (tO : TO) (δ : List Sl) (o : Option Int) : Prop := ∀ (B G H : Hp) (σ : L2.St), Same G H → Same B H → ER B G H σ δ → ∀ Q : Option Int → Hp → Prop, (∀ H', Same H H' → Q o H') → tO σ H Q
class RP (C : Addr) (EX : XK) (tO : TO) where
  run : List Sl → Option (Option Int)
  sd : ∀ δ o, run δ = some o → EvO tO δ o
instance rpNo : RP C EX tNoPart where
  run _ := some none
  sd δ o h := by
    cases h
    exact fun B G H σ e1 e2 E Q q => q H (Same.refl H)
def toI : Rn PyData → Option (Option Int)
  | .ok (.int i) => some (some i)
  | _ => none
instance rpSome [a : RE C EX te] : RP C EX (tPart te) where
  run δ := toI (a.run δ)
  sd δ o h := by
    have ha := a.sd δ
    revert ha h
    cases a.run δ with
    | bad => intro h; cases h
    | ex n => intro h; cases h
    | ok d =>
      cases d with
      | int i => intro h ha; cases h; exact fun B G H σ e1 e2 E Q q => ha B G H σ e1 e2 E _ fun v H1 s1 r => ⟨i, r.eqInt, q H1 s1⟩
      | _ => intro h; cases h
def cutD (ds : List PyData) (lo hi : Option Int) : List PyData := (ds.drop (HT.sIx ds.length 0 lo)).take (HT.sIx ds.length ds.length hi - HT.sIx ds.length 0 lo)
def slD (d : PyData) (lo hi : Option (Option Int)) : Rn PyData := match d, lo, hi with
  | .list ds, some l, some h => .ok (.list (cutD ds l h))
  | _, _, _ => .bad
instance reSl {tl th : TO} [a : RE C EX te] [b : RP C EX tl] [c : RP C EX th] : RE C EX (tSl (rSlL K) te tl th) where
  run δ := (a.run δ).bd fun d => slD d (b.run δ) (c.run δ)
  sd δ := by
    have ha := a.sd δ
    show Sd C EX _ δ ((a.run δ).bd fun d => slD d (b.run δ) (c.run δ))
    revert ha
    cases a.run δ with
    | bad => intro _; trivial
    | ex n => intro ha; exact fun B G H σ e1 e2 E x Q => ha B G H σ e1 e2 E x _
    | ok d =>
      intro ha
      show Sd C EX _ δ (slD d (b.run δ) (c.run δ))
      unfold slD
      split
      · rename_i ds l h eb ec
        have hb := b.sd δ l eb
        have hc := c.sd δ h ec
        refine fun B G H σ e1 e2 E Q q => ha B G H σ e1 e2 E _ fun v H1 s1 r1 => hb B (ext G H H1) H1 σ (ext_r e1 s1) (e2.trans s1) (E.step s1) _ fun H2 s2 => ?_
        have s12 := s1.trans s2
        have E2 := E.step s12
        refine hc B (ext G H H2) H2 σ (ext_r e1 s12) (e2.trans s12) E2 _ fun H3 s3 => ?_
        have s13 := s12.trans s3
        obtain ⟨a, xs, rfl, g, r⟩ := r1.inLst
        have hx : H3 a = some (.lst xs) := s3 _ _ (s2 _ _ (ext_r e1 s1 _ _ g))
        refine ⟨a, xs, rfl, SqL.of hx, fun p hp => ?_⟩
        have s := same_new (o := .lst (cutV xs l h)) hp
        refine q _ _ (s13.trans s) (.lst (xs := cutV xs l h) (ext_new (s13.free hp) ((e1.trans s13).free hp) upd_same) ?_)
        have cc : Dats (ext G H H1) (cutV xs l h) (cutD ds l h) := by
          unfold cutV cutD
          rw [r.len]
          exact (r.drop _).take _
        refine cc.same fun b o e => ?_
        have e1' : Same (ext G H H1) (ext G H H3) := by rw [← ext_ext s1 (s2.trans s3)]; exact ext_l
        have e2' : Same (ext G H H3) (ext G H (upd H3 p (.lst (cutV xs l h)))) := by rw [← ext_ext s13 s]; exact ext_l
        exact e2' _ _ (e1' _ _ e)
      · trivial
/-! ### what is walked -/
def toL : Rn PyData → Option (List PyData)
  | .ok (.list ds) => some ds
  | _ => none
def toT : Rn PyData → Option (List PyData)
  | .ok (.tuple ds) => some ds
  | _ => none
theorem toL_eq {x : Rn PyData} {ds : List PyData} (h : toL x = some ds) : x = .ok (.list ds) := by
  unfold toL at h
  split at h
  · cases h; rfl
  · cases h
theorem toT_eq {x : Rn PyData} {ds : List PyData} (h : toT x = some ds) : x = .ok (.tuple ds) := by
  unfold toT at h
  split at h
  · cases h; rfl
  · cases h
theorem RE.at_ok (a : RE C EX te) {δ : List Sl} {d : PyData} (h : a.run δ = .ok d) : EvE te δ d := by
  have := a.sd δ
  rw [h] at this
  exact this
theorem RA.at_ok (a : RA C EX tA) {δ : List Sl} {ds : List PyData} (h : a.run δ = .ok ds) : EvA tA δ ds := by
  have := a.sd δ
  rw [h] at this
  exact this
theorem RT.at_ok (a : RT C EX tt) {δ : List Sl} {b : Bool} (h : a.run δ = .ok b) : EvT tt δ b := by
  have := a.sd δ
  rw [h] at this
  exact this
instance riList [a : RE C EX te] : RI C EX (iList K te) where
  run δ := toL (a.run δ)
  sd δ ds h := ia_list (a.at_ok (toL_eq h))
instance riTup [a : RE C EX te] : RI C EX (iTup K te) where
  run δ := toT (a.run δ)
  sd δ ds h := ia_tup (a.at_ok (toT_eq h))
instance riEnum [a : RE C EX te] : RI C EX (iEnum K (tCons te tNil)) where
  run δ := (toL (a.run δ)).map (enumD 0)
  sd δ ds h := by
    cases e : toL (a.run δ) with
    | none => rw [e] at h; cases h
    | some es =>
      rw [e] at h
      cases h
      exact ia_enum (a.at_ok (toL_eq e))
instance rgName (i : Nat) : RG (gName i) where
  run δ d := some (δ.set i (.pu d))
  sd δ d δ' h := by cases h; exact ga_name
instance rgPair (i j : Nat) : RG (gTup K 2 (gCons (gName i) (gCons (gName j) gNil))) where
  run δ d := match d with
    | .tuple [d1, d2] => some ((δ.set i (.pu d1)).set j (.pu d2))
    | _ => none
  sd δ d δ' h := by
    split at h
    · cases h; exact ga_pair
    · cases h
instance rgwName (i : Nat) (vs : List Nat) : RGw (gName i) vs where
  run δ d := if i ∈ vs then some (δ.set i (.pu d)) else none
  sd δ d δ' h := by
    split at h
    · rename_i hi; cases h; exact gaw_name hi
    · cases h
instance rgwPair (i j : Nat) (vs : List Nat) : RGw (gTup K 2 (gCons (gName i) (gCons (gName j) gNil))) vs where
  run δ d := match d with
    | .tuple [d1, d2] => if i ∈ vs ∧ j ∈ vs then some ((δ.set i (.pu d1)).set j (.pu d2)) else none
    | _ => none
  sd δ d δ' h := by
    split at h
    · split at h
      · rename_i hi; cases h; exact gaw_pair hi.1 hi.2
      · cases h
    · cases h
/-! ### comprehensions -/
def lcRun (g : PyData → Option (List Sl)) (t : List Sl → Rn Bool) (e : List Sl → Rn PyData) : List PyData → Option (List PyData)
  | [] => some []
  | d :: ds => match g d with
    | none => none
    | some δ2 => match t δ2 with
      | .ok true => match e δ2 with
        | .ok x => (lcRun g t e ds).map (x :: ·)
        | _ => none
      | .ok false => lcRun g t e ds
      | _ => none
def lcP (g : PyData → Option (List Sl)) (t : List Sl → Rn Bool) (d : PyData) : Bool := match g d with
  | some δ2 => match t δ2 with
    | .ok b => b
    | _ => false
  | none => false
def lcF (g : PyData → Option (List Sl)) (e : List Sl → Rn PyData) (d : PyData) : PyData := match g d with
  | some δ2 => match e δ2 with
    | .ok x => x
    | _ => .none
  | none => .none
theorem lcRun_ok {g : PyData → Option (List Sl)} {t : List Sl → Rn Bool} {e : List Sl → Rn PyData} : ∀ {ds es : List PyData}, lcRun g t e ds = some es →
    es = (ds.filter (lcP g t)).map (lcF g e) ∧ ∀ d ∈ ds, ∃ δ2, g d = some δ2 ∧ t δ2 = .ok (lcP g t d) ∧ (lcP g t d = true → e δ2 = .ok (lcF g e d))
  | [], es, h => by
    simp only [lcRun, Option.some.injEq] at h
    subst h
    exact ⟨rfl, fun d hd => by cases hd⟩
  | d :: ds, es, h => by
    unfold lcRun at h
    cases eg : g d with
    | none => rw [eg] at h; cases h
    | some δ2 =>
      rw [eg] at h
      simp only at h
      cases et : t δ2 with
      | bad => rw [et] at h; cases h
      | ex n => rw [et] at h; cases h
      | ok b =>
        have hp : lcP g t d = b := by unfold lcP; rw [eg]; simp only [et]
        rw [et] at h
        cases b with
        | true =>
          simp only at h
          cases ee : e δ2 with
          | bad => rw [ee] at h; cases h
          | ex n => rw [ee] at h; cases h
          | ok x =>
            have hf : lcF g e d = x := by unfold lcF; rw [eg]; simp only [ee]
            rw [ee] at h
            simp only at h
            cases er : lcRun g t e ds with
            | none => rw [er] at h; cases h
            | some r =>
              rw [er] at h
              cases h
              obtain ⟨z1, z2⟩ := lcRun_ok er
              refine ⟨by rw [List.filter_cons, if_pos hp, List.map_cons, hf, ← z1], fun d' hd => ?_⟩
              rcases List.mem_cons.mp hd with q | hd
              · subst q
                exact ⟨δ2, eg, by rw [hp]; exact et, fun _ => by rw [hf]; exact ee⟩
              · exact z2 d' hd
        | false =>
          simp only at h
          obtain ⟨z1, z2⟩ := lcRun_ok h
          refine ⟨by rw [List.filter_cons, if_neg (by rw [hp]; decide), ← z1], fun d' hd => ?_⟩
          rcases List.mem_cons.mp hd with q | hd
          · subst q
            exact ⟨δ2, eg, by rw [hp]; exact et, fun z => by rw [hp] at z; cases z⟩
          · exact z2 d' hd
def lcAll (o : Option (List PyData)) (g : PyData → Option (List Sl)) (t : List Sl → Rn Bool) (e : List Sl → Rn PyData) : Rn PyData := match o with
  | none => .bad
  | some ds => if ds.length ≤ 100000 then match lcRun g t e ds with
      | some es => .ok (.list es)
      | none => .bad
    else .bad
instance reLc {wi : TI} {g : TG} {vs : List Nat} [i : RI C EX wi] [gg : RGw g vs] [t : RT C EX tt] [e : RE C EX te] : RE C EX (tLc wi g tt te vs) where
  run δ := lcAll (i.run δ) (gg.run (wipeA δ vs)) t.run e.run
  sd δ := by
    show Sd C EX _ δ (lcAll (i.run δ) (gg.run (wipeA δ vs)) t.run e.run)
    unfold lcAll
    split
    · trivial
    · rename_i ds hi
      split
      · rename_i hz
        split
        · rename_i es he
          obtain ⟨z1, z2⟩ := lcRun_ok he
          rw [z1]
          refine eve_lc _ _ (i.sd δ ds hi) hz fun j d hd => ?_
          obtain ⟨δ2, y1, y2, y3⟩ := z2 d (List.mem_of_getElem? hd)
          exact ⟨δ2, gg.sd _ _ _ y1, t.at_ok y2, fun hp => e.at_ok (y3 hp)⟩
        · trivial
      · trivial
/-- two clauses -/
def lc2Run (g : PyData → Option (List Sl)) (t : List Sl → Rn Bool) (w1 : List Sl → Option (List PyData)) (g1 : List Sl → PyData → Option (List Sl)) (t1 : List Sl → Rn Bool) (e : List Sl → Rn PyData) : List PyData → Option (List PyData × Nat)
  | [] => some ([], 0)
  | d :: ds => match g d with
    | none => none
    | some δ2 => match t δ2, w1 δ2 with
      | .ok true, some es => match lcRun (g1 δ2) t1 e es, lc2Run g t w1 g1 t1 e ds with
        | some xs, some r => some (xs ++ r.1, es.length + r.2)
        | _, _ => none
      | _, _ => none
def dEs (g : PyData → Option (List Sl)) (w1 : List Sl → Option (List PyData)) (d : PyData) : List PyData := match g d with
  | some δ2 => (w1 δ2).getD []
  | none => []
def dP2 (g : PyData → Option (List Sl)) (g1 : List Sl → PyData → Option (List Sl)) (t1 : List Sl → Rn Bool) (d e : PyData) : Bool := match g d with
  | some δ2 => lcP (g1 δ2) t1 e
  | none => false
def dF2 (g : PyData → Option (List Sl)) (g1 : List Sl → PyData → Option (List Sl)) (ee : List Sl → Rn PyData) (d e : PyData) : PyData := match g d with
  | some δ2 => lcF (g1 δ2) ee e
  | none => .none
theorem lc2Run_ok {g : PyData → Option (List Sl)} {t : List Sl → Rn Bool} {w1 : List Sl → Option (List PyData)} {g1 : List Sl → PyData → Option (List Sl)} {t1 : List Sl → Rn Bool} {e : List Sl → Rn PyData} : ∀ {ds es : List PyData} {n : Nat}, lc2Run g t w1 g1 t1 e ds = some (es, n) →
    es = (ds.flatMap fun d => ((dEs g w1 d).filter (dP2 g g1 t1 d)).map (dF2 g g1 e d)) ∧ (ds.flatMap (dEs g w1)).length = n ∧ ∀ d ∈ ds, ∃ δ2, g d = some δ2 ∧ t δ2 = .ok true ∧ w1 δ2 = some (dEs g w1 d) ∧
      ∀ x ∈ dEs g w1 d, ∃ δ3, g1 δ2 x = some δ3 ∧ t1 δ3 = .ok (dP2 g g1 t1 d x) ∧ (dP2 g g1 t1 d x = true → e δ3 = .ok (dF2 g g1 e d x))
  | [], es, n, h => by
    simp only [lc2Run, Option.some.injEq, Prod.mk.injEq] at h
    obtain ⟨h1, h2⟩ := h
    subst h1 h2
    exact ⟨rfl, rfl, fun d hd => by cases hd⟩
  | d :: ds, es, n, h => by
    unfold lc2Run at h
    cases eg : g d with
    | none => rw [eg] at h; cases h
    | some δ2 =>
      rw [eg] at h
      simp only at h
      split at h
      · rename_i xs1 et ew
        split at h
        · rename_i ys r e1 e2
          cases h
          obtain ⟨r1, r2⟩ := r
          obtain ⟨z1, z2, z3⟩ := lc2Run_ok e2
          obtain ⟨y1, y2⟩ := lcRun_ok e1
          have hE : dEs g w1 d = xs1 := by unfold dEs; rw [eg]; simp only [ew]; rfl
          have hP : dP2 g g1 t1 d = lcP (g1 δ2) t1 := by funext x; unfold dP2; rw [eg]
          have hF : dF2 g g1 e d = lcF (g1 δ2) e := by funext x; unfold dF2; rw [eg]
          refine ⟨by rw [List.flatMap_cons, hE, hP, hF, ← y1, ← z1], by rw [List.flatMap_cons, List.length_append, hE, z2], fun d' hd => ?_⟩
          rcases List.mem_cons.mp hd with q | hd
          · subst q
            refine ⟨δ2, eg, et, by rw [hE]; exact ew, fun x hx => ?_⟩
            rw [hE] at hx
            rw [hP, hF]
            exact y2 x hx
          · exact z3 d' hd
        · cases h
      · cases h
def lc2All (o : Option (List PyData)) (g : PyData → Option (List Sl)) (t : List Sl → Rn Bool) (w1 : List Sl → Option (List PyData)) (g1 : List Sl → PyData → Option (List Sl)) (t1 : List Sl → Rn Bool) (e : List Sl → Rn PyData) : Rn PyData := match o with
  | none => .bad
  | some ds => match lc2Run g t w1 g1 t1 e ds with
      | some (es, n) => if n ≤ 100000 then .ok (.list es) else .bad
      | none => .bad
instance reLc2 {wi wi1 : TI} {g g1 : TG} {tt1 : TT} {vs vs1 : List Nat} [i : RI C EX wi] [gg : RGw g vs] [t : RT C EX tt] [i1 : RI C EX wi1] [gg1 : RGw g1 vs1] [t1 : RT C EX tt1] [e : RE C EX te] : RE C EX (tLc2 wi g tt wi1 g1 tt1 te vs vs1) where
  run δ := lc2All (i.run δ) (gg.run (wipeA δ vs)) t.run i1.run (fun δ2 => gg1.run (wipeA δ2 vs1)) t1.run e.run
  sd δ := by
    show Sd C EX _ δ (lc2All (i.run δ) (gg.run (wipeA δ vs)) t.run i1.run (fun δ2 => gg1.run (wipeA δ2 vs1)) t1.run e.run)
    unfold lc2All
    split
    · trivial
    · rename_i ds hi
      split
      · rename_i es n he
        split
        · rename_i hz
          obtain ⟨z1, z2, z3⟩ := lc2Run_ok he
          rw [z1]
          refine eve_lc2 _ _ _ (i.sd δ ds hi) (by rw [z2]; exact hz) fun j d hd => ?_
          obtain ⟨δ2, y1, y2, y3, y4⟩ := z3 d (List.mem_of_getElem? hd)
          refine ⟨δ2, gg.sd _ _ _ y1, t.at_ok y2, i1.sd _ _ y3, fun k x hx => ?_⟩
          obtain ⟨δ3, x1, x2, x3⟩ := y4 x (List.mem_of_getElem? hx)
          exact ⟨δ3, gg1.sd _ _ _ x1, t1.at_ok x2, fun hp => e.at_ok (x3 hp)⟩
        · trivial
      · trivial
end
end DL
end
section
set_option Elab.async false
set_option linter.all false
set_option maxRecDepth 100000
set_option maxHeartbeats 4000000
/-! RS: frozen reads, statements, generator bodies that run; the promise of a def from its body. -/
namespace DL
open PySem L2 GX PyProof.Rows TLX
section
variable {C : Addr} {EX : XK} {te ta tb tk : TE} {tA tB' : TA} {tt tu : TT} {r : R2} {K : PySem.W.Frag} {B G G0 H H' : Hp} {σ : L2.St} {δ δ' : List Sl} {d : PyData} {ts us : TS}
/-! ### a list of its own read as data -/
def frzS : Sl → Sl
  | .ow ds => .pu (.list ds)
  | s => s
def frz (δ : List Sl) : List Sl := δ.map frzS
open Classical in
theorem ER.frz (E : ER B G H σ δ) (gh : Same G H) : ∃ G', Same G G' ∧ Same G' H ∧ (∀ b o, G' b = some o → G b = some o ∨ (B b = none ∧ ∃ xs, o = .lst xs)) ∧ ER B G' H σ (frz δ) := by
  refine ⟨fun b => match G b with
    | some o => some o
    | none => if (∃ (i : Nat) (ds : List PyData), δ[i]? = some (.ow ds) ∧ σ[i]? = some (some (.ref b))) then H b else none, fun b o e => by simp only [e], fun b o e => ?_, fun b o e => ?_, ?_⟩
  · cases g : G b with
    | some u =>
      simp only [g] at e
      rw [← e]
      exact gh _ _ g
    | none =>
      simp only [g] at e
      split at e
      · exact e
      · cases e
  · cases g : G b with
    | some u =>
      simp only [g] at e
      exact .inl e
    | none =>
      simp only [g] at e
      split at e
      · rename_i z
        obtain ⟨i, ds, h1, h2⟩ := z
        obtain ⟨a, xs, q, hh, _, hb, _⟩ := E.own h1
        rw [h2] at q
        cases q
        rw [hh] at e
        exact .inr ⟨hb, xs, (Option.some.inj e).symm⟩
      · cases e
  · refine ⟨by unfold DL.frz; rw [List.length_map]; exact E.len, fun i o s h1 h2 => ?_, fun i j a ds es _ h1 _ _ _ => ?_⟩
    · unfold DL.frz at h2
      rw [List.getElem?_map] at h2
      cases e : δ[i]? with
      | none => rw [e] at h2; cases h2
      | some s0 =>
        rw [e] at h2
        cases h2
        have z := E.at_ i o s0 h1 e
        cases s0 with
        | any => trivial
        | pu d =>
          obtain ⟨v, q, r⟩ := z
          exact ⟨v, q, r.same fun b o e => by simp only [e]⟩
        | ow ds =>
          obtain ⟨a, xs, q, hh, g, b, r⟩ := z
          subst q
          refine ⟨.ref a, rfl, .lst (xs := xs) ?_ (r.same fun b o e => by simp only [e])⟩
          simp only [g]
          rw [if_pos ⟨i, ds, e, h1⟩]
          exact hh
    · unfold DL.frz at h1
      rw [List.getElem?_map] at h1
      cases e : δ[i]? with
      | none => rw [e] at h1; cases h1
      | some s0 =>
        rw [e] at h1
        cases s0 <;> cases h1
def flat1 : PyData → Bool
  | .none => true
  | .bool _ => true
  | .int _ => true
  | .str _ => true
  | _ => false
def shal : PyData → Bool
  | .tuple ds => ds.all flat1
  | d => flat1 d
theorem flat1_dat {G G' : Hp} {v : V} {d : PyData} (h : flat1 d = true) (r : Dat G v d) : Dat G' v d := by
  cases r with
  | non => exact .non
  | bl b => exact .bl b
  | int i => exact .int i
  | str x => exact .str x
  | lst _ _ => simp [flat1] at h
  | tup _ _ => simp [flat1] at h
  | frz _ _ => simp [flat1] at h
theorem flat1_dats {G G' : Hp} : ∀ {vs : List V} {ds : List PyData}, ds.all flat1 = true → Dats G vs ds → Dats G' vs ds
  | _, _, _, .nil => .nil
  | _, _, h, .cons a b => by
    rw [List.all_cons, Bool.and_eq_true] at h
    exact .cons (flat1_dat h.1 a) (flat1_dats h.2 b)
theorem shal_dat {G' : Hp} {v : V} (gg : Same G G') (gh : Same G' H) (fr : ∀ b o, G' b = some o → G b = some o ∨ (B b = none ∧ ∃ xs, o = .lst xs)) (h : shal d = true) (r : Dat (ext G' H H') v d) : Dat (ext G H H') v d := by
  cases d with
  | tuple ds =>
    obtain ⟨a, xs, rfl, g, r'⟩ := r.inTup
    refine .tup (xs := xs) ?_ (flat1_dats h r')
    cases q : G' a with
    | some o =>
      have z := ext_l (H := H) (H' := H') _ _ q
      rw [g] at z
      cases z
      rcases fr a _ q with y | ⟨_, ys, y⟩
      · exact ext_l _ _ y
      · cases y
    | none =>
      have q0 := gg.free q
      unfold ext at g ⊢
      rw [q] at g
      rw [q0]
      exact g
  | none => exact flat1_dat h r
  | bool b => exact flat1_dat h r
  | int i => exact flat1_dat h r
  | str x => exact flat1_dat h r
  | list ds => simp [shal, flat1] at h
  | dict ds => simp [shal, flat1] at h
theorem eve_frz (h : EvE te (frz δ) d) (hs : shal d = true) : EvE te δ d := fun B G H σ e1 e2 E Q q => by
  obtain ⟨G', g1, g2, fr, E'⟩ := E.frz e1
  exact h B G' H σ g2 e2 E' Q fun v H' s r => q v H' s (shal_dat g1 g2 fr hs r)
theorem evx_frz {n : Int} (h : EvX C EX te (frz δ) n) : EvX C EX te δ n := fun B G H σ e1 e2 E x Q => by
  obtain ⟨G', g1, g2, fr, E'⟩ := E.frz e1
  exact h B G' H σ g2 e2 E' x Q
theorem evt_frz {b : Bool} (h : EvT tt (frz δ) b) : EvT tt δ b := fun B G H σ e1 e2 E Q q => by
  obtain ⟨G', g1, g2, fr, E'⟩ := E.frz e1
  exact h B G' H σ g2 e2 E' Q q
theorem evxt_frz {n : Int} (h : EvXT C EX tt (frz δ) n) : EvXT C EX tt δ n := fun B G H σ e1 e2 E x Q => by
  obtain ⟨G', g1, g2, fr, E'⟩ := E.frz e1
  exact h B G' H σ g2 e2 E' x Q
def runS (f : List Sl → Rn PyData) (δ : List Sl) : Rn PyData := match f δ with
  | .bad => match f (frz δ) with
    | .ok d => if shal d then .ok d else .bad
    | x => x
  | x => x
theorem sd_runS [a : RE C EX te] (δ : List Sl) : Sd C EX te δ (runS a.run δ) := by
  unfold runS
  have h1 := a.sd δ
  have h2 := a.sd (frz δ)
  revert h1 h2
  cases a.run δ with
  | ok d => intro h1 _; exact h1
  | ex n => intro h1 _; exact h1
  | bad =>
    cases a.run (frz δ) with
    | bad => intro _ _; trivial
    | ex n => intro _ h2; exact evx_frz h2
    | ok d =>
      intro _ h2
      show Sd C EX te δ (if shal d then .ok d else .bad)
      split
      · rename_i hs; exact eve_frz h2 hs
      · trivial
def runT (f : List Sl → Rn Bool) (δ : List Sl) : Rn Bool := match f δ with
  | .bad => f (frz δ)
  | x => x
theorem sd_runT [a : RT C EX tt] (δ : List Sl) : SdT C EX tt δ (runT a.run δ) := by
  unfold runT
  have h1 := a.sd δ
  have h2 := a.sd (frz δ)
  revert h1 h2
  cases a.run δ with
  | ok d => intro h1 _; exact h1
  | ex n => intro h1 _; exact h1
  | bad =>
    cases a.run (frz δ) with
    | bad => intro _ _; trivial
    | ex n => intro _ h2; exact evxt_frz h2
    | ok d => intro _ h2; exact evt_frz h2
/-- one slot's list becomes data -/
def frzAt (i : Nat) (δ : List Sl) : List Sl := match δ[i]? with
  | some (.ow ds) => δ.set i (.pu (.list ds))
  | _ => δ
theorem ER.frzAt (E : ER B G H σ δ) (gh : Same G H) (i : Nat) : ∃ G', Same G G' ∧ Same G' H ∧ (∀ b o, G' b = some o → G b = some o ∨ (B b = none ∧ ∃ xs, o = .lst xs)) ∧ ER B G' H σ (frzAt i δ) := by
  unfold DL.frzAt
  split
  · rename_i ds hi
    obtain ⟨a, xs, hs, hh, g, b, r⟩ := E.own hi
    refine ⟨upd G a (.lst xs), same_new g, same_upd gh hh, fun c o e => ?_, E.freeze hi hs hh g r⟩
    by_cases hc : c = a
    · subst hc
      rw [upd_same] at e
      exact .inr ⟨b, xs, (Option.some.inj e).symm⟩
    · rw [upd_ne hc] at e
      exact .inl e
  · exact ⟨G, Same.refl G, gh, fun b o e => .inl e, E⟩
/-- at a statement: the value, and what the slots are then -/
def tryAt (f : List Sl → Rn PyData) (δ : List Sl) : List Nat → Rn (PyData × List Sl)
  | [] => match f (frz δ) with
    | .ok d => .ok (d, if shal d then δ else frz δ)
    | .ex n => .ex n
    | .bad => .bad
  | i :: is => match f (frzAt i δ) with
    | .ok d => .ok (d, if shal d then δ else frzAt i δ)
    | .ex n => .ex n
    | .bad => tryAt f δ is
def owIx : Nat → List Sl → List Nat
  | _, [] => []
  | i, .ow _ :: δ => i :: owIx (i + 1) δ
  | i, _ :: δ => owIx (i + 1) δ
def runW (f : List Sl → Rn PyData) (δ : List Sl) : Rn (PyData × List Sl) := match f δ with
  | .ok d => .ok (d, δ)
  | .ex n => .ex n
  | .bad => tryAt f δ (owIx 0 δ)
theorem Wd.frz {G' : Hp} (W : Wd G0 B G H) (g1 : Same G G') (g2 : Same G' H) (fr : ∀ b o, G' b = some o → G b = some o ∨ (B b = none ∧ ∃ xs, o = .lst xs)) : Wd G0 B G' H :=
  ⟨W.g0.trans g1, g2, W.bh, fun b o e => (fr b o e).elim (fun z => W.fr b o z) fun z => .inr z.1⟩
/-- read with some lists become data -/
theorem ev_some {δx : List Sl} (hd : EvE te δx d) (W : Wd G0 B G H) (E : ER B G H σ δ) (hx : ∃ G', Same G G' ∧ Same G' H ∧ (∀ b o, G' b = some o → G b = some o ∨ (B b = none ∧ ∃ xs, o = .lst xs)) ∧ ER B G' H σ δx) (Q : VK)
    (q : ∀ v H' G', Wd G0 B G' H' → ER B G' H' σ (if shal d then δ else δx) → Dat G' v d → Q v H') : te σ H Q := by
  obtain ⟨G', g1, g2, fr, E'⟩ := hx
  by_cases hs : shal d = true
  · exact hd B G' H σ g2 W.bh E' Q fun v H' s r => q v H' _ (W.step s) (by rw [if_pos hs]; exact E.step s) (shal_dat g1 g2 fr hs r)
  · have W' := W.frz g1 g2 fr
    exact hd B G' H σ g2 W.bh E' Q fun v H' s r => q v H' _ (W'.step s) (by rw [if_neg hs]; exact E'.step s) r
theorem evx_some {δx : List Sl} {n : Int} (hd : EvX C EX te δx n) (W : Wd G0 B G H) (hx : ∃ G', Same G G' ∧ Same G' H ∧ (∀ b o, G' b = some o → G b = some o ∨ (B b = none ∧ ∃ xs, o = .lst xs)) ∧ ER B G' H σ δx) (x : XT C EX B n) (Q : VK) : te σ H Q := by
  obtain ⟨G', g1, g2, fr, E'⟩ := hx
  exact hd B G' H σ g2 W.bh E' (x.on W.bh) Q
theorem tryAt_ok [a : RE C EX te] : ∀ {is : List Nat}, tryAt a.run δ is = .ok (d, δ') → Wd G0 B G H → ER B G H σ δ → ∀ Q : VK, (∀ v H' G', Wd G0 B G' H' → ER B G' H' σ δ' → Dat G' v d → Q v H') → te σ H Q
  | [], h, W, E, Q, q => by
    unfold tryAt at h
    have h2 := a.sd (DL.frz δ)
    revert h h2
    cases a.run (DL.frz δ) with
    | bad => intro h; cases h
    | ex n => intro h; cases h
    | ok d1 =>
      intro h h2
      simp only [Rn.ok.injEq, Prod.mk.injEq] at h
      obtain ⟨rfl, rfl⟩ := h
      exact ev_some h2 W E (E.frz W.gh) Q q
  | i :: is, h, W, E, Q, q => by
    unfold tryAt at h
    have h2 := a.sd (DL.frzAt i δ)
    revert h h2
    cases a.run (DL.frzAt i δ) with
    | bad => exact fun h _ => tryAt_ok h W E Q q
    | ex n => intro h; cases h
    | ok d1 =>
      intro h h2
      simp only [Rn.ok.injEq, Prod.mk.injEq] at h
      obtain ⟨rfl, rfl⟩ := h
      exact ev_some h2 W E (E.frzAt W.gh i) Q q
theorem tryAt_ex [a : RE C EX te] {n : Int} : ∀ {is : List Nat}, tryAt a.run δ is = .ex n → Wd G0 B G H → ER B G H σ δ → XT C EX B n → ∀ Q : VK, te σ H Q
  | [], h, W, E, x, Q => by
    unfold tryAt at h
    have h2 := a.sd (DL.frz δ)
    revert h h2
    cases a.run (DL.frz δ) with
    | bad => intro h; cases h
    | ok d => intro h; cases h
    | ex m =>
      intro h h2
      cases h
      exact evx_some h2 W (E.frz W.gh) x Q
  | i :: is, h, W, E, x, Q => by
    unfold tryAt at h
    have h2 := a.sd (DL.frzAt i δ)
    revert h h2
    cases a.run (DL.frzAt i δ) with
    | bad => exact fun h _ => tryAt_ex h W E x Q
    | ok d => intro h; cases h
    | ex m =>
      intro h h2
      cases h
      exact evx_some h2 W (E.frzAt W.gh i) x Q
theorem evw [a : RE C EX te] (h : runW a.run δ = .ok (d, δ')) (W : Wd G0 B G H) (E : ER B G H σ δ) (Q : VK) (q : ∀ v H' G', Wd G0 B G' H' → ER B G' H' σ δ' → Dat G' v d → Q v H') : te σ H Q := by
  unfold runW at h
  have h1 := a.sd δ
  revert h h1
  cases a.run δ with
  | ok d1 =>
    intro h h1
    cases h
    exact h1 B G H σ W.gh W.bh E Q fun v H' s r => q v H' _ (W.step s) (E.step s) r
  | ex n => intro h; cases h
  | bad => exact fun h _ => tryAt_ok h W E Q q
theorem evwx [a : RE C EX te] {n : Int} (h : runW a.run δ = .ex n) (W : Wd G0 B G H) (E : ER B G H σ δ) (x : XT C EX B n) (Q : VK) : te σ H Q := by
  unfold runW at h
  have h1 := a.sd δ
  revert h h1
  cases a.run δ with
  | ok d1 => intro h; cases h
  | ex m =>
    intro h h1
    cases h
    exact h1 B G H σ W.gh W.bh E (x.on W.bh) Q
  | bad => exact fun h _ => tryAt_ex h W E x Q
/-- plain values may be read off lists of its own -/
def runA (f : List Sl → Rn (List PyData)) (δ : List Sl) : Option (List PyData) := match f δ with
  | .ok ds => some ds
  | .bad => match f (frz δ) with
    | .ok ds => if ds.all flat1 then some ds else none
    | _ => none
  | _ => none
theorem eva_runA [a : RA C EX tA] {ds : List PyData} (h : runA a.run δ = some ds) : EvA tA δ ds := by
  unfold runA at h
  have h1 := a.sd δ
  have h2 := a.sd (DL.frz δ)
  revert h h1 h2
  cases a.run δ with
  | ok d =>
    intro h h1 _
    cases h
    exact h1
  | ex n => intro h; cases h
  | bad =>
    cases a.run (DL.frz δ) with
    | bad => intro h; cases h
    | ex n => intro h; cases h
    | ok d =>
      intro h _ h2
      simp only at h
      split at h
      · rename_i hf
        cases h
        intro B G H σ e1 e2 E Q q
        obtain ⟨G', g1, g2, fr, E'⟩ := E.frz e1
        exact h2 B G' H σ g2 e2 E' Q fun vs H' s r => q vs H' s (flat1_dats hf r)
      · cases h
def rng1 : Option (List PyData) → Option (List PyData)
  | some [.int (.ofNat n)] => if n ≤ 1000000 then some (rangeD 0 n) else none
  | _ => none
def rng2 : Option (List PyData) → Option (List PyData)
  | some [.int (.ofNat l), .int (.ofNat h)] => if l ≤ 1000000 ∧ h ≤ 1000000 then some (rangeD (l : Int) (h - l)) else none
  | _ => none
instance riRng1 [a : RA C EX tA] : RI C EX (iRng1 tA) where
  run δ := rng1 (runA a.run δ)
  sd δ ds h := by
    unfold rng1 at h
    split at h
    · rename_i n e
      split at h
      · rename_i hn
        cases h
        exact ia_range1 (eva_runA e) hn
      · cases h
    · cases h
instance riRng2 [a : RA C EX tA] : RI C EX (iRng2 tA) where
  run δ := rng2 (runA a.run δ)
  sd δ ds h := by
    unfold rng2 at h
    split at h
    · rename_i l u e
      split at h
      · rename_i hn
        cases h
        exact ia_range2 (eva_runA e) hn.1 hn.2
      · cases h
    · cases h
/-! ### statements -/
inductive Fl where
  | bad
  | nx (δ : List Sl)
  | rt (d : PyData)
  | bk (δ : List Sl)
  | ct (δ : List Sl)
  | ex (n : Int)
def aeO (o : Fl) : AE := { nx := fun δ' => o = .nx δ', rt := fun d => o = .rt d, bk := fun δ' => o = .bk δ', ct := fun δ' => o = .ct δ', ex := fun n => o = .ex n }
class RS (C : Addr) (EX : XK) (ts : TS) where
  run : List Sl → Fl
  sd : ∀ δ, run δ ≠ .bad → WS C EX ts (aeO (run δ)) δ
instance rsNext : RS C EX tNext where
  run δ := .nx δ
  sd δ _ := ws_next rfl
def seqR (o : Fl) (k : List Sl → Fl) : Fl := match o with
  | .nx δ' => k δ'
  | o => o
instance rsSeq [a : RS C EX ts] [b : RS C EX us] : RS C EX (tSeq ts us) where
  run δ := seqR (a.run δ) b.run
  sd δ h := by
    have ha := a.sd δ
    revert h ha
    show seqR (a.run δ) b.run ≠ .bad → _ → WS C EX (tSeq ts us) (aeO (seqR (a.run δ) b.run)) δ
    cases a.run δ with
    | bad => intro h; exact absurd rfl h
    | nx δ1 =>
      intro h ha
      exact ws_seq (ws_imp (ha (by simp)) (fun δ2 e => by cases e; exact b.sd δ1 h) (fun _ e => by cases e) (fun _ e => by cases e) (fun _ e => by cases e) (fun _ e => by cases e))
    | rt d => intro h ha; exact ws_seq (ws_imp (ha (by simp)) (fun δ2 e => by cases e) (fun _ e => e) (fun _ e => by cases e) (fun _ e => by cases e) (fun _ e => by cases e))
    | bk d => intro h ha; exact ws_seq (ws_imp (ha (by simp)) (fun δ2 e => by cases e) (fun _ e => by cases e) (fun _ e => e) (fun _ e => by cases e) (fun _ e => by cases e))
    | ct d => intro h ha; exact ws_seq (ws_imp (ha (by simp)) (fun δ2 e => by cases e) (fun _ e => by cases e) (fun _ e => by cases e) (fun _ e => e) (fun _ e => by cases e))
    | ex d => intro h ha; exact ws_seq (ws_imp (ha (by simp)) (fun δ2 e => by cases e) (fun _ e => by cases e) (fun _ e => by cases e) (fun _ e => by cases e) (fun _ e => e))
def asgR (i : Nat) : Rn (PyData × List Sl) → Fl
  | .ok (d, δ') => .nx (δ'.set i (.pu d))
  | .ex n => .ex n
  | .bad => .bad
instance rsAsg {i : Nat} [a : RE C EX te] : RS C EX (tAsg te (gName i)) where
  run δ := asgR i (runW a.run δ)
  sd δ h := by
    revert h
    cases e : runW a.run δ with
    | bad => intro h; exact absurd rfl h
    | ok p =>
      obtain ⟨d, δ'⟩ := p
      intro _ G0 B G H σ D W E F
      exact evw e W E _ fun v H' G' W' E' r => F.nx G' H' _ _ W' (E'.set r) rfl
    | ex n =>
      intro _ G0 B G H σ D W E F
      exact evwx e W E (F.ex n rfl) _
/-- name = [..]: a list that will be changed -/
def tOwn (tA : TA) (i : Nat) : TS := tAsg (tLst tA) (gName i)
def ownR (i : Nat) (δ : List Sl) : Rn (List PyData) → Fl
  | .ok ds => if ds.length ≤ 100000 then .nx (δ.set i (.ow ds)) else .bad
  | _ => .bad
instance rsOwn {i : Nat} [a : RA C EX tA] : RS C EX (tOwn tA i) where
  run δ := ownR i δ (a.run δ)
  sd δ h := by
    revert h
    cases e : a.run δ with
    | bad => intro h; exact absurd rfl h
    | ex n => intro h; exact absurd rfl h
    | ok ds =>
      show (if ds.length ≤ 100000 then Fl.nx (δ.set i (.ow ds)) else .bad) ≠ .bad → WS C EX _ (aeO (if ds.length ≤ 100000 then Fl.nx (δ.set i (.ow ds)) else .bad)) δ
      split
      · rename_i hz
        exact fun _ => ws_asgOw (a.at_ok e) hz rfl
      · intro h; exact absurd rfl h
def owAt (δ : List Sl) (i : Nat) : Option (List PyData) := match δ[i]? with
  | some (.ow ds) => some ds
  | _ => none
theorem owAt_eq {i : Nat} {ds : List PyData} (h : owAt δ i = some ds) : δ[i]? = some (.ow ds) := by
  unfold owAt at h
  split at h
  · cases h; assumption
  · cases h
def appR (i : Nat) (δ : List Sl) (o : Option (List PyData)) (x : Rn PyData) : Fl := match o with
  | none => .bad
  | some ds => match x with
    | .ok d => if ds.length < 100000 then .nx (δ.set i (.ow (ds ++ [d]))) else .bad
    | _ => .bad
instance rsAppend {i : Nat} [a : RE C EX te] : RS C EX (tDrop (tBM K "list" rAppend (tVar i) (tCons te tNil))) where
  run δ := appR i δ (owAt δ i) (runS a.run δ)
  sd δ h := by
    have hs := sd_runS (C := C) (EX := EX) (te := te) δ
    revert h hs
    cases e : owAt δ i with
    | none => intro h; exact absurd rfl h
    | some ds =>
      cases runS a.run δ with
      | bad => intro h; exact absurd rfl h
      | ex n => intro h; exact absurd rfl h
      | ok d =>
        show (if ds.length < 100000 then Fl.nx (δ.set i (.ow (ds ++ [d]))) else .bad) ≠ .bad → _ → WS C EX _ (aeO (if ds.length < 100000 then Fl.nx (δ.set i (.ow (ds ++ [d]))) else .bad)) δ
        split
        · rename_i hz
          exact fun _ hs => ws_append (owAt_eq e) hs hz rfl
        · intro h; exact absurd rfl h
def extR (i : Nat) (δ : List Sl) (o : Option (List PyData)) (x : Rn PyData) : Fl := match o, x with
  | some ds, .ok (.list es) => if ds.length + es.length ≤ 100000 then .nx (δ.set i (.ow (ds ++ es))) else .bad
  | _, _ => .bad
instance rsExtend {i : Nat} [a : RE C EX te] : RS C EX (tDrop (tBM K "list" rExtend (tVar i) (tCons te tNil))) where
  run δ := extR i δ (owAt δ i) (a.run δ)
  sd δ h := by
    have hs := a.sd δ
    revert h hs
    cases e : owAt δ i with
    | none => intro h; exact absurd rfl h
    | some ds =>
      cases a.run δ with
      | bad => intro h; exact absurd rfl h
      | ex n => intro h; exact absurd rfl h
      | ok d =>
        cases d with
        | list es =>
          show (if ds.length + es.length ≤ 100000 then Fl.nx (δ.set i (.ow (ds ++ es))) else .bad) ≠ .bad → _ → WS C EX _ (aeO (if ds.length + es.length ≤ 100000 then Fl.nx (δ.set i (.ow (ds ++ es))) else .bad)) δ
          split
          · rename_i hz
            exact fun _ hs => ws_extend (owAt_eq e) hs hz rfl
          · intro h; exact absurd rfl h
        | _ => intro h; exact absurd rfl h
def popR (i j : Nat) (δ : List Sl) (o : Option (List PyData)) : Fl := match o with
  | some ds => match ds.getLast? with
    | some (.int n) => .nx ((δ.set i (.ow ds.dropLast)).set j (.pu (.int (n + 1))))
    | _ => .bad
  | none => .bad
instance rsPopAdd {i j : Nat} : RS C EX (tAsg (tOp (rI0 fun i j => .int (i + j)) (tBM0 K "list" rPop (tVar i)) (tC (.int 1))) (gName j)) where
  run δ := popR i j δ (owAt δ i)
  sd δ h := by
    revert h
    cases e : owAt δ i with
    | none => intro h; exact absurd rfl h
    | some ds =>
      cases el : ds.getLast? with
      | none => intro h; refine absurd ?_ h; unfold popR; simp only [el]
      | some d =>
        cases d with
        | int n =>
          intro _
          have ep : popR i j δ (some ds) = .nx ((δ.set i (.ow ds.dropLast)).set j (.pu (.int (n + 1)))) := by unfold popR; simp only [el]
          rw [ep]
          have eds : ds = ds.dropLast ++ [.int n] := by
            have hne : ds ≠ [] := fun z => by subst z; simp at el
            rw [List.getLast?_eq_some_getLast hne] at el
            have := List.dropLast_concat_getLast hne
            rw [Option.some.inj el] at this
            exact this.symm
          have hi := owAt_eq e
          rw [eds] at hi
          exact ws_popAdd hi rfl
        | _ => intro h; refine absurd ?_ h; unfold popR; simp only [el]
def dropR (δ : List Sl) : Rn PyData → Fl
  | .ok _ => .nx δ
  | .ex n => .ex n
  | .bad => .bad
instance rsDrop [a : RE C EX te] : RS C EX (tDrop te) where
  run δ := dropR δ (runS a.run δ)
  sd δ h := by
    have hs := sd_runS (C := C) (EX := EX) (te := te) δ
    revert h hs
    cases runS a.run δ with
    | bad => intro h; exact absurd rfl h
    | ok d => exact fun _ hs => ws_drop hs rfl
    | ex n => exact fun _ hs G0 B G H σ D W E F => hs B G H σ W.gh W.bh E ((F.ex n rfl).on W.bh) _
def retR : Rn (PyData × List Sl) → Fl
  | .ok (d, _) => .rt d
  | .ex n => .ex n
  | .bad => .bad
instance rsRet [a : RE C EX te] : RS C EX (tRet te) where
  run δ := retR (runW a.run δ)
  sd δ h := by
    revert h
    cases e : runW a.run δ with
    | bad => intro h; exact absurd rfl h
    | ok p =>
      obtain ⟨d, δ'⟩ := p
      intro _ G0 B G H σ D W E F
      exact evw e W E _ fun v H' G' W' E' r => F.rt H' v d (W'.g0.trans W'.gh) W'.bh (r.same W'.fin) rfl
    | ex n =>
      intro _ G0 B G H σ D W E F
      exact evwx e W E (F.ex n rfl) _
instance rsRetN : RS C EX tRetN where
  run δ := .rt .none
  sd δ _ := ws_retN rfl
def ifR (x : Rn Bool) (a b : Unit → Fl) : Fl := match x with
  | .ok true => a ()
  | .ok false => b ()
  | .ex n => .ex n
  | .bad => .bad
instance rsIf [c : RT C EX tt] [a : RS C EX ts] [b : RS C EX us] : RS C EX (tIfS tt ts us) where
  run δ := ifR (runT c.run δ) (fun _ => a.run δ) (fun _ => b.run δ)
  sd δ h := by
    have hs := sd_runT (C := C) (EX := EX) (tt := tt) δ
    revert h hs
    cases runT c.run δ with
    | bad => intro h; exact absurd rfl h
    | ex n => exact fun _ hs G0 B G H σ D W E F => hs B G H σ W.gh W.bh E ((F.ex n rfl).on W.bh) _
    | ok x =>
      cases x with
      | true => exact fun h hs => ws_if hs (fun _ => a.sd δ h) (fun z => by cases z)
      | false => exact fun h hs => ws_if hs (fun z => by cases z) (fun _ => b.sd δ h)
def forR (g : List Sl → PyData → Option (List Sl)) (b : List Sl → Fl) : List PyData → List Sl → Fl
  | [], δ => .nx δ
  | d :: ds, δ => match g δ d with
    | none => .bad
    | some δ2 => match b δ2 with
      | .nx δ' => forR g b ds δ'
      | .ct δ' => forR g b ds δ'
      | .bk δ' => .nx δ'
      | o => o
def forA (o : Option (List PyData)) (g : List Sl → PyData → Option (List Sl)) (b : List Sl → Fl) (δ : List Sl) : Fl := match o with
  | none => .bad
  | some ds => forR g b ds δ
instance rsFor {wi : TI} {g : TG} [i : RI C EX wi] [gg : RG g] [b : RS C EX ts] : RS C EX (tFor wi g ts) where
  run δ := forA (i.run δ) gg.run b.run δ
  sd δ h := by
    revert h
    show forA (i.run δ) gg.run b.run δ ≠ .bad → WS C EX _ (aeO (forA (i.run δ) gg.run b.run δ)) δ
    cases e : i.run δ with
    | none => intro h; exact absurd rfl h
    | some ds =>
      show forR gg.run b.run ds δ ≠ .bad → WS C EX _ (aeO (forR gg.run b.run ds δ)) δ
      generalize ho : forR gg.run b.run ds δ = o
      intro hb
      refine ws_for (i.sd δ ds e) (fun k δ' => forR gg.run b.run (ds.drop k) δ' = o) (by rw [List.drop_zero]; exact ho) (fun k d δ' hd hI => ?_) (fun δ' hI => ?_)
      · have hk : k < ds.length := (List.getElem?_eq_some_iff.mp hd).1
        have ek : ds.drop k = d :: ds.drop (k + 1) := by
          rw [List.drop_eq_getElem_cons hk]
          rw [List.getElem?_eq_getElem hk] at hd
          rw [Option.some.inj hd]
        rw [ek] at hI
        unfold forR at hI
        cases eg : gg.run δ' d with
        | none => rw [eg] at hI; exact absurd hI.symm hb
        | some δ2 =>
          rw [eg] at hI
          simp only at hI
          refine ⟨δ2, gg.sd _ _ _ eg, ?_⟩
          have hbs := b.sd δ2
          revert hI hbs
          cases b.run δ2 with
          | bad => intro hI; exact absurd hI.symm hb
          | nx δ3 => exact fun hI hbs => ws_imp (hbs (by simp)) (fun δ4 z => by cases z; exact hI) (fun _ z => by cases z) (fun _ z => by cases z) (fun _ z => by cases z) (fun _ z => by cases z)
          | ct δ3 => exact fun hI hbs => ws_imp (hbs (by simp)) (fun δ4 z => by cases z) (fun _ z => by cases z) (fun _ z => by cases z) (fun _ z => by cases z; exact hI) (fun _ z => by cases z)
          | bk δ3 => exact fun hI hbs => ws_imp (hbs (by simp)) (fun δ4 z => by cases z) (fun _ z => by cases z) (fun _ z => by cases z; exact hI.symm) (fun _ z => by cases z) (fun _ z => by cases z)
          | rt d3 => exact fun hI hbs => ws_imp (hbs (by simp)) (fun δ4 z => by cases z) (fun _ z => by cases z; exact hI.symm) (fun _ z => by cases z) (fun _ z => by cases z) (fun _ z => by cases z)
          | ex n3 => exact fun hI hbs => ws_imp (hbs (by simp)) (fun δ4 z => by cases z) (fun _ z => by cases z) (fun _ z => by cases z) (fun _ z => by cases z) (fun _ z => by cases z; exact hI.symm)
      · rw [List.drop_length] at hI
        exact hI.symm
/-- a raise of the error leaves the def -/
def WC (EX : XK) : WX := fun c d _ H => EX c d H
def raiseR : Rn (List PyData) → Fl
  | .ok [.int n] => .ex n
  | _ => .bad
instance rsRaise [a : RA C EX tA] : RS C EX (tRaiseTL C (WC EX) tA) where
  run δ := raiseR (a.run δ)
  sd δ h := by
    revert h
    cases e : a.run δ with
    | bad => intro h; exact absurd rfl h
    | ex n => intro h; exact absurd rfl h
    | ok ds =>
      intro h
      unfold raiseR at h ⊢
      split at h
      · rename_i n e2
        cases e2
        intro G0 B G H σ D W E F
        refine a.at_ok e B G H σ W.gh W.bh E _ fun vs H1 s1 r1 => ?_
        cases r1 with
        | cons r1 r2 =>
          cases r2
          rw [r1.eqInt]
          refine ⟨_, rfl, fun dd hd => ?_⟩
          exact F.ex n rfl dd _ ((W.bh.trans s1).trans (same_new hd)) upd_same
      · exact absurd rfl h
/-! ### the promise of a def from its body -/
def outF : Fl → Rn PyData
  | .nx _ => .ok .none
  | .rt d => .ok d
  | .ex n => .ex n
  | _ => .bad
/-- y does what x says, if x says something -/
def Ref {α : Type} (x y : Rn α) : Prop := x = .bad ∨ y = x
theorem body_run {n : Nat} {f : PF} {N : List Str} {vs : List V} {Q : VK} {E : XK} [a : RS C E ts] (h : spF C n f vs H Q E)
    (hf : ∀ ds, ds.length = n → Ref (f ds) (outF (a.run (startA N.length ds)))) : ts { nx := fun _ H' => Q .non H', rt := Q } (L2.start N vs) H := by
  obtain ⟨ds, G, hn, e, r, q⟩ := h
  rcases hf ds hn with z | z
  · rw [z] at q; exact q.elim
  · have hs := a.sd (startA N.length ds)
    rw [← z] at q
    revert q hs
    cases a.run (startA N.length ds) with
    | bad => intro q; exact q.elim
    | bk _ => intro q; exact q.elim
    | ct _ => intro q; exact q.elim
    | nx δ' =>
      exact fun q hs => hs (by simp) G H G H _ _ (Wd.refl e (Same.refl H)) (er_start r) ⟨fun G' H' σ δ W E hn => q .non H' W.bh .non, fun _ _ _ _ _ _ z => (by cases z), fun _ _ _ _ _ _ z => (by cases z), fun _ _ _ _ _ _ z => (by cases z), fun _ z => (by cases z)⟩
    | rt d =>
      exact fun q hs => hs (by simp) G H G H _ _ (Wd.refl e (Same.refl H)) (er_start r) ⟨fun _ _ _ _ _ _ z => (by cases z), fun H' v d' _ e2 rd hd => (by cases hd; exact q v H' e2 rd), fun _ _ _ _ _ _ z => (by cases z), fun _ _ _ _ _ _ z => (by cases z), fun _ z => (by cases z)⟩
    | ex m =>
      exact fun q hs => hs (by simp) G H G H _ _ (Wd.refl e (Same.refl H)) (er_start r) ⟨fun _ _ _ _ _ _ z => (by cases z), fun _ _ _ _ _ _ z => (by cases z), fun _ _ _ _ _ _ z => (by cases z), fun _ _ _ _ _ _ z => (by cases z), fun m' z => (by cases z; exact q)⟩
/-- .. of a def that raises nothing here -/
def outF0 : Fl → Rn PyData
  | .nx _ => .ok .none
  | .rt d => .ok d
  | _ => .bad
theorem body_run0 {n : Nat} {f : PF} {N : List Str} {vs : List V} {Q : VK} {E : XK} [a : RS C E0 ts] (h : spF C n f vs H Q E)
    (hf : ∀ ds, ds.length = n → Ref (f ds) (outF0 (a.run (startA N.length ds)))) : ts { nx := fun _ H' => Q .non H', rt := Q } (L2.start N vs) H := by
  obtain ⟨ds, G, hn, e, r, q⟩ := h
  rcases hf ds hn with z | z
  · rw [z] at q; exact q.elim
  · have hs := a.sd (startA N.length ds)
    rw [← z] at q
    revert q hs
    cases a.run (startA N.length ds) with
    | bad => intro q; exact q.elim
    | bk _ => intro q; exact q.elim
    | ct _ => intro q; exact q.elim
    | ex _ => intro q; exact q.elim
    | nx δ' =>
      exact fun q hs => hs (by simp) G H G H _ _ (Wd.refl e (Same.refl H)) (er_start r) ⟨fun G' H' σ δ W E hn => q .non H' W.bh .non, fun _ _ _ _ _ _ z => (by cases z), fun _ _ _ _ _ _ z => (by cases z), fun _ _ _ _ _ _ z => (by cases z), fun _ z => (by cases z)⟩
    | rt d =>
      exact fun q hs => hs (by simp) G H G H _ _ (Wd.refl e (Same.refl H)) (er_start r) ⟨fun _ _ _ _ _ _ z => (by cases z), fun H' v d' _ e2 rd hd => (by cases hd; exact q v H' e2 rd), fun _ _ _ _ _ _ z => (by cases z), fun _ _ _ _ _ _ z => (by cases z), fun _ z => (by cases z)⟩
end
end DL
end
section
set_option Elab.async false
set_option linter.all false
set_option maxRecDepth 100000
set_option maxHeartbeats 4000000
/-! RG: generator bodies that run; the promise of a generator def from its body. -/
namespace DL
open PySem L2 GX PyProof.Rows TLX
section
variable {C : Addr} {EX : XK} {te ta tb tk : TE} {tA tB' : TA} {tt tu : TT} {r : R2} {K : PySem.W.Frag} {B G G0 H H' : Hp} {σ : L2.St} {δ δ' : List Sl} {d : PyData} {ts us : TS} {tg th : TGn}
inductive Gf where
  | bad
  | nx (es : List PyData) (δ : List Sl)
  | rt (es : List PyData)
  | bk (es : List PyData) (δ : List Sl)
  | ct (es : List PyData) (δ : List Sl)
  | ex (n : Int)
def agO (o : Gf) : AG := { nx := fun es δ' => o = .nx es δ', rt := fun es => o = .rt es, bk := fun es δ' => o = .bk es δ', ct := fun es δ' => o = .ct es δ', ex := fun n => o = .ex n }
class RGn (C : Addr) (EX : XK) (tg : TGn) where
  run : List PyData → List Sl → Gf
  sd : ∀ es δ, run es δ ≠ .bad → WG C EX tg (agO (run es δ)) es δ
theorem wg_imp {AA A' : AG} {es : List PyData} (h : WG C EX tg AA es δ) (hn : ∀ es δ, AA.nx es δ → A'.nx es δ) (hr : ∀ es, AA.rt es → A'.rt es) (hb : ∀ es δ, AA.bk es δ → A'.bk es δ) (hc : ∀ es δ, AA.ct es δ → A'.ct es δ) (hx : ∀ n, AA.ex n → A'.ex n) : WG C EX tg A' es δ := fun G0 B G H σ ys D W E r F =>
  h G0 B G H σ ys D W E r ⟨fun G H σ δ ys es W E r q => F.nx G H σ δ ys es W E r (hn _ _ q), fun H ys es e1 e2 r q => F.rt H ys es e1 e2 r (hr _ q), fun G H σ δ ys es W E r q => F.bk G H σ δ ys es W E r (hb _ _ q), fun G H σ δ ys es W E r q => F.ct G H σ δ ys es W E r (hc _ _ q), fun n q => F.ex n (hx n q)⟩
def plainR (es : List PyData) : Fl → Gf
  | .nx δ => .nx es δ
  | .rt .none => .rt es
  | .bk δ => .bk es δ
  | .ct δ => .ct es δ
  | .ex n => .ex n
  | _ => .bad
instance rgPlain [a : RS C EX ts] : RGn C EX (tPlain ts) where
  run es δ := plainR es (a.run δ)
  sd es δ h := by
    have hs := a.sd δ
    revert h hs
    cases a.run δ with
    | bad => intro h; exact absurd rfl h
    | nx δ' => exact fun _ hs => wg_plain (ws_imp (hs (by simp)) (fun _ z => by cases z; rfl) (fun _ z => by cases z) (fun _ z => by cases z) (fun _ z => by cases z) (fun _ z => by cases z))
    | bk δ' => exact fun _ hs => wg_plain (ws_imp (hs (by simp)) (fun _ z => by cases z) (fun _ z => by cases z) (fun _ z => by cases z; rfl) (fun _ z => by cases z) (fun _ z => by cases z))
    | ct δ' => exact fun _ hs => wg_plain (ws_imp (hs (by simp)) (fun _ z => by cases z) (fun _ z => by cases z) (fun _ z => by cases z) (fun _ z => by cases z; rfl) (fun _ z => by cases z))
    | ex n => exact fun _ hs => wg_plain (ws_imp (hs (by simp)) (fun _ z => by cases z) (fun _ z => by cases z) (fun _ z => by cases z) (fun _ z => by cases z) (fun _ z => by cases z; rfl))
    | rt d =>
      cases d with
      | none => exact fun _ hs => wg_plain (ws_imp (hs (by simp)) (fun _ z => by cases z) (fun _ z => by cases z; exact ⟨rfl, rfl⟩) (fun _ z => by cases z) (fun _ z => by cases z) (fun _ z => by cases z))
      | _ => intro h; exact absurd rfl h
instance rgNil : RGn C EX tG0 where
  run es δ := .nx es δ
  sd es δ _ := wg_nil rfl
def thenR (o : Gf) (k : List PyData → List Sl → Gf) : Gf := match o with
  | .nx es δ => k es δ
  | o => o
instance rgThen [a : RGn C EX tg] [b : RGn C EX th] : RGn C EX (tGThen tg th) where
  run es δ := thenR (a.run es δ) b.run
  sd es δ h := by
    have ha := a.sd es δ
    revert h ha
    show thenR (a.run es δ) b.run ≠ .bad → _ → WG C EX (tGThen tg th) (agO (thenR (a.run es δ) b.run)) es δ
    cases a.run es δ with
    | bad => intro h; exact absurd rfl h
    | nx es1 δ1 => exact fun h ha => wg_then (wg_imp (ha (by simp)) (fun _ _ z => by cases z; exact b.sd es1 δ1 h) (fun _ z => by cases z) (fun _ _ z => by cases z) (fun _ _ z => by cases z) (fun _ z => by cases z))
    | rt d => exact fun h ha => wg_then (wg_imp (ha (by simp)) (fun _ _ z => by cases z) (fun _ z => z) (fun _ _ z => by cases z) (fun _ _ z => by cases z) (fun _ z => by cases z))
    | bk d1 d => exact fun h ha => wg_then (wg_imp (ha (by simp)) (fun _ _ z => by cases z) (fun _ z => by cases z) (fun _ _ z => z) (fun _ _ z => by cases z) (fun _ z => by cases z))
    | ct d1 d => exact fun h ha => wg_then (wg_imp (ha (by simp)) (fun _ _ z => by cases z) (fun _ z => by cases z) (fun _ _ z => by cases z) (fun _ _ z => z) (fun _ z => by cases z))
    | ex d => exact fun h ha => wg_then (wg_imp (ha (by simp)) (fun _ _ z => by cases z) (fun _ z => by cases z) (fun _ _ z => by cases z) (fun _ _ z => by cases z) (fun _ z => z))
def yieldR (es : List PyData) (δ : List Sl) : Rn PyData → Gf
  | .ok d => if es.length < 100000 then .nx (es ++ [d]) δ else .bad
  | _ => .bad
instance rgYield [a : RE C EX te] : RGn C EX (tGYield te) where
  run es δ := yieldR es δ (runS a.run δ)
  sd es δ h := by
    have hs := sd_runS (C := C) (EX := EX) (te := te) δ
    revert h hs
    cases runS a.run δ with
    | bad => intro h; exact absurd rfl h
    | ex n => intro h; exact absurd rfl h
    | ok d =>
      show (if es.length < 100000 then Gf.nx (es ++ [d]) δ else .bad) ≠ .bad → _ → WG C EX _ (agO (if es.length < 100000 then Gf.nx (es ++ [d]) δ else .bad)) es δ
      split
      · rename_i hz
        exact fun _ hs => wg_yield hs hz rfl
      · intro h; exact absurd rfl h
def gifR (x : Rn Bool) (a b : Unit → Gf) : Gf := match x with
  | .ok true => a ()
  | .ok false => b ()
  | _ => .bad
instance rgIf [c : RT C EX tt] [a : RGn C EX tg] [b : RGn C EX th] : RGn C EX (tGIf tt tg th) where
  run es δ := gifR (runT c.run δ) (fun _ => a.run es δ) (fun _ => b.run es δ)
  sd es δ h := by
    have hs := sd_runT (C := C) (EX := EX) (tt := tt) δ
    revert h hs
    cases runT c.run δ with
    | bad => intro h; exact absurd rfl h
    | ex n => intro h; exact absurd rfl h
    | ok x =>
      cases x with
      | true => exact fun h hs => wg_if hs (fun _ => a.sd es δ h) (fun z => by cases z)
      | false => exact fun h hs => wg_if hs (fun z => by cases z) (fun _ => b.sd es δ h)
def gforR (g : List Sl → PyData → Option (List Sl)) (b : List PyData → List Sl → Gf) : List PyData → List PyData → List Sl → Gf
  | [], es, δ => .nx es δ
  | d :: ds, es, δ => match g δ d with
    | none => .bad
    | some δ2 => match b es δ2 with
      | .nx es' δ' => gforR g b ds es' δ'
      | .ct es' δ' => gforR g b ds es' δ'
      | .bk es' δ' => .nx es' δ'
      | o => o
def gforA (o : Option (List PyData)) (g : List Sl → PyData → Option (List Sl)) (b : List PyData → List Sl → Gf) (es : List PyData) (δ : List Sl) : Gf := match o with
  | none => .bad
  | some ds => gforR g b ds es δ
instance rgFor {wi : TI} {g : TG} [i : RI C EX wi] [gg : RG g] [b : RGn C EX tg] : RGn C EX (tGFor wi g tg) where
  run es δ := gforA (i.run δ) gg.run b.run es δ
  sd es δ h := by
    revert h
    show gforA (i.run δ) gg.run b.run es δ ≠ .bad → WG C EX _ (agO (gforA (i.run δ) gg.run b.run es δ)) es δ
    cases e : i.run δ with
    | none => intro h; exact absurd rfl h
    | some ds =>
      show gforR gg.run b.run ds es δ ≠ .bad → WG C EX _ (agO (gforR gg.run b.run ds es δ)) es δ
      generalize ho : gforR gg.run b.run ds es δ = o
      intro hb
      refine wg_for (i.sd δ ds e) (fun k es' δ' => gforR gg.run b.run (ds.drop k) es' δ' = o) (by rw [List.drop_zero]; exact ho) (fun k d es' δ' hd hI => ?_) (fun es' δ' hI => ?_)
      · have hk : k < ds.length := (List.getElem?_eq_some_iff.mp hd).1
        have ek : ds.drop k = d :: ds.drop (k + 1) := by
          rw [List.drop_eq_getElem_cons hk]
          rw [List.getElem?_eq_getElem hk] at hd
          rw [Option.some.inj hd]
        rw [ek] at hI
        unfold gforR at hI
        cases eg : gg.run δ' d with
        | none => rw [eg] at hI; exact absurd hI.symm hb
        | some δ2 =>
          rw [eg] at hI
          simp only at hI
          refine ⟨δ2, gg.sd _ _ _ eg, ?_⟩
          have hbs := b.sd es' δ2
          revert hI hbs
          cases b.run es' δ2 with
          | bad => intro hI; exact absurd hI.symm hb
          | nx e3 δ3 => exact fun hI hbs => wg_imp (hbs (by simp)) (fun _ _ z => by cases z; exact hI) (fun _ z => by cases z) (fun _ _ z => by cases z) (fun _ _ z => by cases z) (fun _ z => by cases z)
          | ct e3 δ3 => exact fun hI hbs => wg_imp (hbs (by simp)) (fun _ _ z => by cases z) (fun _ z => by cases z) (fun _ _ z => by cases z) (fun _ _ z => by cases z; exact hI) (fun _ z => by cases z)
          | bk e3 δ3 => exact fun hI hbs => wg_imp (hbs (by simp)) (fun _ _ z => by cases z) (fun _ z => by cases z) (fun _ _ z => by cases z; exact hI.symm) (fun _ _ z => by cases z) (fun _ z => by cases z)
          | rt e3 => exact fun hI hbs => wg_imp (hbs (by simp)) (fun _ _ z => by cases z) (fun _ z => by cases z; exact hI.symm) (fun _ _ z => by cases z) (fun _ _ z => by cases z) (fun _ z => by cases z)
          | ex n3 => exact fun hI hbs => wg_imp (hbs (by simp)) (fun _ _ z => by cases z) (fun _ z => by cases z) (fun _ _ z => by cases z) (fun _ _ z => by cases z) (fun _ z => by cases z; exact hI.symm)
      · rw [List.drop_length] at hI
        exact hI.symm
def whR (t : List Sl → Rn Bool) (b : List PyData → List Sl → Gf) : Nat → List PyData → List Sl → Gf
  | 0, _, _ => .bad
  | m + 1, es, δ => match runT t δ with
    | .ok true => match b es δ with
      | .nx es' δ' => whR t b m es' δ'
      | .ct es' δ' => whR t b m es' δ'
      | .bk es' δ' => .nx es' δ'
      | o => o
    | .ok false => .nx es δ
    | _ => .bad
def fuelW : Nat := 1000000
instance rgWhile [c : RT C EX tt] [b : RGn C EX tg] : RGn C EX (tGWhile tt tg) where
  run es δ := whR c.run b.run fuelW es δ
  sd es δ h := by
    revert h
    show whR c.run b.run fuelW es δ ≠ .bad → WG C EX _ (agO (whR c.run b.run fuelW es δ)) es δ
    generalize ho : whR c.run b.run fuelW es δ = o
    intro hb
    refine wg_while (fun m es' δ' => whR c.run b.run m es' δ' = o) fuelW ho fun m es' δ' hI => ?_
    cases m with
    | zero => exact absurd hI.symm hb
    | succ m =>
      unfold whR at hI
      have ht := sd_runT (C := C) (EX := EX) (tt := tt) δ'
      revert hI ht
      cases runT c.run δ' with
      | bad => intro hI; exact absurd hI.symm hb
      | ex n => intro hI; exact absurd hI.symm hb
      | ok x =>
        cases x with
        | false => exact fun hI ht => ⟨false, ht, fun z => (by cases z), fun _ => hI.symm⟩
        | true =>
          intro hI ht
          refine ⟨true, ht, fun _ => ?_, fun z => (by cases z)⟩
          have hbs := b.sd es' δ'
          revert hI hbs
          simp only
          cases b.run es' δ' with
          | bad => intro hI; exact absurd hI.symm hb
          | nx e3 δ3 => exact fun hI hbs => wg_imp (hbs (by simp)) (fun _ _ z => by cases z; exact ⟨m, Nat.lt_succ_self m, hI⟩) (fun _ z => by cases z) (fun _ _ z => by cases z) (fun _ _ z => by cases z) (fun _ z => by cases z)
          | ct e3 δ3 => exact fun hI hbs => wg_imp (hbs (by simp)) (fun _ _ z => by cases z) (fun _ z => by cases z) (fun _ _ z => by cases z) (fun _ _ z => by cases z; exact ⟨m, Nat.lt_succ_self m, hI⟩) (fun _ z => by cases z)
          | bk e3 δ3 => exact fun hI hbs => wg_imp (hbs (by simp)) (fun _ _ z => by cases z) (fun _ z => by cases z) (fun _ _ z => by cases z; exact hI.symm) (fun _ _ z => by cases z) (fun _ z => by cases z)
          | rt e3 => exact fun hI hbs => wg_imp (hbs (by simp)) (fun _ _ z => by cases z) (fun _ z => by cases z; exact hI.symm) (fun _ _ z => by cases z) (fun _ _ z => by cases z) (fun _ z => by cases z)
          | ex n3 => exact fun hI hbs => wg_imp (hbs (by simp)) (fun _ _ z => by cases z) (fun _ z => by cases z) (fun _ _ z => by cases z) (fun _ _ z => by cases z) (fun _ z => by cases z; exact hI.symm)
/-! ### promises of generator defs -/
abbrev PG' := List PyData → Rn (List PyData)
def spGF (C : Addr) (n : Nat) (f : PG') : SpG := fun vs H cont E => ∃ ds G, ds.length = n ∧ Same G H ∧ Dats G vs ds ∧ match f ds with
  | .ok es => ∀ ys H', Same H H' → Dats (ext G H H') ys es → cont ys H'
  | _ => False
theorem spGF_len {n : Nat} {f : PG'} (vs : List V) (H : Hp) (Q : List V → Hp → Prop) (E : XK) (h : spGF C n f vs H Q E) : vs.length = n := by
  obtain ⟨ds, G, h1, _, r, _⟩ := h
  rw [r.len, h1]
def outG : Gf → Rn (List PyData)
  | .nx es _ => .ok es
  | .rt es => .ok es
  | _ => .bad
theorem gbody_run {n : Nat} {f : PG'} {N : List Str} {vs : List V} {Q : List V → Hp → Prop} {E : XK} [a : RGn C E0 tg] (h : spGF C n f vs H Q E)
    (hf : ∀ ds, ds.length = n → Ref (f ds) (outG (a.run [] (startA N.length ds)))) : tg { nx := fun ys _ H' => Q ys H', rt := fun ys v H' => v = .non ∧ Q ys H' } [] (L2.start N vs) H := by
  obtain ⟨ds, G, hn, e, r, q⟩ := h
  rcases hf ds hn with z | z
  · rw [z] at q; exact q.elim
  · have hs := a.sd [] (startA N.length ds)
    rw [← z] at q
    revert q hs
    cases a.run [] (startA N.length ds) with
    | bad => intro q; exact q.elim
    | bk _ _ => intro q; exact q.elim
    | ct _ _ => intro q; exact q.elim
    | nx es δ' =>
      exact fun q hs => hs (by simp) G H G H _ [] _ (Wd.refl e (Same.refl H)) (er_start r) .nil ⟨fun G' H' σ δ ys es' W E rd hn => (by cases hn; exact q ys H' W.bh (rd.same W.fin)), fun _ _ _ _ _ _ z => (by cases z), fun _ _ _ _ _ _ _ _ _ z => (by cases z), fun _ _ _ _ _ _ _ _ _ z => (by cases z), fun _ z => (by cases z)⟩
    | rt es =>
      exact fun q hs => hs (by simp) G H G H _ [] _ (Wd.refl e (Same.refl H)) (er_start r) .nil ⟨fun _ _ _ _ _ _ _ _ _ z => (by cases z), fun H' ys es' e1 e2 rd hd => (by cases hd; exact ⟨rfl, q ys H' e2 rd⟩), fun _ _ _ _ _ _ _ _ _ z => (by cases z), fun _ _ _ _ _ _ _ _ _ z => (by cases z), fun _ z => (by cases z)⟩
    | ex m => intro q; exact q.elim
def lstG : Rn (List PyData) → Rn PyData
  | .ok out => .ok (.list out)
  | _ => .bad
def runGn (n : Nat) (f : PG') (dvs : List V) (ds : List PyData) : Rn PyData := match vDs dvs with
  | some es => if (ds ++ es).length = n then lstG (f (ds ++ es)) else .bad
  | none => .bad
instance reListG {n : Nat} {f : PG'} {dvs : List V} [a : RA C EX tA] : RE C EX (tListG (tCallG (spGF C n f) dvs E0 tA)) where
  run δ := (a.run δ).bd fun ds => runGn n f dvs ds
  sd δ := by
    have ha := a.sd δ
    show Sd C EX _ δ ((a.run δ).bd fun ds => runGn n f dvs ds)
    revert ha
    cases a.run δ with
    | bad => intro _; trivial
    | ex n => intro ha; exact fun B G H σ e1 e2 E x Q => ha B G H σ e1 e2 E x _
    | ok ds =>
      intro ha
      show Sd C EX _ δ (runGn n f dvs ds)
      unfold runGn
      cases hd : vDs dvs with
      | none => trivial
      | some es =>
        show Sd C EX _ δ (if (ds ++ es).length = n then lstG (f (ds ++ es)) else .bad)
        split
        · rename_i hn
          cases hf : f (ds ++ es) with
          | bad => trivial
          | ok out =>
            refine fun B G H σ e1 e2 E Q q => ha B G H σ e1 e2 E _ fun vs H1 s1 r1 => ⟨ds ++ es, ext G H H1, hn, ext_r e1 s1, r1.app (vDs_dats hd), ?_⟩
            rw [hf]
            intro ys H2 s2 r2 p hp
            rw [ext_ext s1 s2] at r2
            have s := same_new (o := .lst ys) hp
            have s12 := s1.trans s2
            refine q _ _ (s12.trans s) (.lst (xs := ys) (ext_new (s12.free hp) ((e1.trans s12).free hp) upd_same) (r2.same ?_))
            rw [← ext_ext s12 s]
            exact ext_l
          | ex m => trivial
        · trivial
end
/-! ### a generator def called with keywords -/
def tCallGN (n m : Nat) (sp : SpG) (gV : List V → List V → List V) (E : XK) (t tk : TA) : TGen := fun σ H cont => t σ H fun vs H1 => tk σ H1 fun zs H2 => vs.length = n ∧ zs.length = m ∧ sp (gV vs zs) H2 cont E
section
variable {X : Cx} {k n : Nat} {f : Addr} {fd : FuncData} {ps ks : List Str} {sp : SpG} {E : XK} {x : Str} {p pos : Pos} {e : Expr} {es : List Expr} {kws : List Keyword} {t tk : TA} {g : List Value → List Value → List Value} {gV : List V → List V → List V}
theorem run_gfnN {pins : List (Addr × Obj)} {σ : L2.St} {H : Hp} {s : Shared} {us ws : List Value} {vs zs : List V} {cont : List V → Hp → Prop} {E1 : Value → Shared → Prop} (F : GFn X.prog X.w X.K X.mg X.base k f fd ps sp) (hr : Room k X.A) (hb : KBn X.K fd ps n ks g gV)
    (I : Inv X pins σ H s) (r : Vals vs us) (rz : Vals zs ws) (l1 : vs.length = n) (l2 : zs.length = ks.length) (h : sp (gV vs zs) H cont E) :
    wpAny (model X.prog X.w) X.A (call (.ref f) us (ks.zip ws)) (fun u s' => ∃ H1 sc ex, Inv X pins σ H1 sc ∧ ExOk X pins ex ∧ GMade X.prog X.w k X.stack H1 sc ex cont E u s') E1 s := by
  have r2 := hb.rel r rz
  refine wpAny_call (codeAny_mono (F.run X.A X.stack s H ⟨us, ks.zip ws⟩ (g us ws) (gV vs zs) cont E hr I.env0 (hb.to s us ws I.kIn (r.length.symm.trans l1) (rz.length.symm.trans l2)) r2 h) fun r s' hq => ?_)
  cases r with
  | error e => exact False.elim hq
  | ok fl =>
    cases fl with
    | ret u => exact ⟨H, s, [], I, .nil, hq⟩
    | next => exact False.elim hq
    | brk => exact False.elim hq
    | cont => exact False.elim hq
theorem pgen_callN (F : GFn X.prog X.w X.K X.mg X.base k f fd ps sp) (hr : Room k X.A) (hg : Gl X x) (hm : X.mg x = some (.ref f)) (hk : PySem.W.keepIn X.K (.ref f) = true) (hb : KBn X.K fd ps n ks g gV)
    (ha : PA X (e :: es) t) (hkw : PK X kws tk) (hall : (backToKw pos (keywordEach kws X.env)).all (·.1.isSome) = true := by rfl) (hks : (backToKw pos (keywordEach kws X.env)).filterMap (·.1) = ks := by rfl)
    (hdb : (x == ("__debug__" : Str)) = false := by decide) (he : starEach (e :: es) X.env = (false, eval e X.env) :: starEach es X.env := by rfl)
    (hpl : ((backTo pos (starEach (e :: es) X.env)).any (·.1) || (backToKw pos (keywordEach kws X.env)).any (·.1.isNone)) = false := by rfl) :
    PGen X k (.Call (.Name x p) (e :: es) kws pos) (tCallGN n ks.length sp gV E t tk) E := by
  refine ⟨fun pins s σ H cont I h => ?_⟩
  refine wpAny_Call_Name_kw (ld_glob I hg hm ?_ hdb)
  refine PySem.W.callWith_KW (h₀ := X.base) I.ok.mod.kin hk hall (thn (ha.run pos pins s σ H _ I h) fun us s1 ⟨vs, H1, I1, r, q⟩ => ?_) hpl he
  refine thn (hkw.run pos pins s1 σ H1 _ I1 q) fun ws s2 ⟨zs, H2, I2, rz, l1, l2, q2⟩ => ⟨I2.kIn, ?_⟩
  rw [hks]
  exact run_gfnN F hr hb I2 r rz l1 l2 q2
end
section
variable {C : Addr} {EX : XK} {tA tB' : TA}
instance reListGN {n l1 l2 : Nat} {f : PG'} [a : RA C EX tA] [b : RA C EX tB'] : RE C EX (tListG (tCallGN l1 l2 (spGF C n f) (fun vs zs => vs ++ zs) E0 tA tB')) where
  run δ := (a.run δ).bd fun ds => (b.run δ).bd fun es => if ds.length = l1 ∧ es.length = l2 ∧ (ds ++ es).length = n then lstG (f (ds ++ es)) else .bad
  sd δ := by
    have ha := a.sd δ
    have hb := b.sd δ
    show Sd C EX _ δ ((a.run δ).bd fun ds => (b.run δ).bd fun es => if ds.length = l1 ∧ es.length = l2 ∧ (ds ++ es).length = n then lstG (f (ds ++ es)) else .bad)
    revert ha hb
    cases a.run δ with
    | bad => intro _ _; trivial
    | ex n => intro ha _; exact fun B G H σ e1 e2 E x Q => ha B G H σ e1 e2 E x _
    | ok ds =>
      cases b.run δ with
      | bad => intro _ _; trivial
      | ex n => intro ha hb; exact fun B G H σ e1 e2 E x Q => ha B G H σ e1 e2 E _ fun v H1 s1 r1 => hb B (ext G H H1) H1 σ (ext_r e1 s1) (e2.trans s1) (E.step s1) (x.on s1) _
      | ok es =>
        intro ha hb
        show Sd C EX _ δ (if ds.length = l1 ∧ es.length = l2 ∧ (ds ++ es).length = n then lstG (f (ds ++ es)) else .bad)
        split
        · rename_i hl
          cases hf : f (ds ++ es) with
          | bad => trivial
          | ok out =>
            refine fun B G H σ e1 e2 E Q q => ha B G H σ e1 e2 E _ fun vs H1 s1 r1 => hb B (ext G H H1) H1 σ (ext_r e1 s1) (e2.trans s1) (E.step s1) _ fun zs H2 s2 r2 => ?_
            rw [ext_ext s1 s2] at r2
            have s12 := s1.trans s2
            have r1' : Dats (ext G H H2) vs ds := r1.same (by rw [← ext_ext s1 s2]; exact ext_l)
            refine ⟨by rw [r1.len]; exact hl.1, by rw [r2.len]; exact hl.2.1, ds ++ es, ext G H H2, hl.2.2, ext_r e1 s12, r1'.app r2, ?_⟩
            rw [hf]
            intro ys H3 s3 r3 p hp
            rw [ext_ext s12 s3] at r3
            have s := same_new (o := .lst ys) hp
            have s13 := s12.trans s3
            refine q _ _ (s13.trans s) (.lst (xs := ys) (ext_new (s13.free hp) ((e1.trans s13).free hp) upd_same) (r3.same ?_))
            rw [← ext_ext s13 s]
            exact ext_l
          | ex m => trivial
        · trivial
end
end DL
end
section
set_option Elab.async false
set_option linter.all false
set_option maxRecDepth 100000
set_option maxHeartbeats 4000000
/-! CAL: a def as its callers know it. -/
namespace DL
open PySem L2 GX PyProof.Rows TLX
instance rsNever {C : Addr} {EX : XK} : RS C EX tNever where
  run _ := .bad
  sd _ h := absurd rfl h
def okR (o : Rn PyData) : Rn PyData := match o with
  | .ok d => .ok d
  | _ => .bad
instance reCallN0 {C : Addr} {EX : XK} {tA tB' : TA} {n l1 l2 : Nat} {f : PF} [a : RA C EX tA] [b : RA C EX tB'] : RE C EX (tCallN l1 l2 (spF C n f) (fun vs zs => vs ++ zs) E0 tA tB') where
  run δ := okR ((a.run δ).bd fun ds => (b.run δ).bd fun es => if ds.length = l1 ∧ es.length = l2 then runF n f (ds ++ es) else .bad)
  sd δ := by
    have ha := a.sd δ
    have hb := b.sd δ
    show Sd C EX _ δ (okR ((a.run δ).bd fun ds => (b.run δ).bd fun es => if ds.length = l1 ∧ es.length = l2 then runF n f (ds ++ es) else .bad))
    revert ha hb
    cases a.run δ with
    | bad => intro _ _; trivial
    | ex n => intro _ _; trivial
    | ok ds =>
      cases b.run δ with
      | bad => intro _ _; trivial
      | ex n => intro _ _; trivial
      | ok es =>
        intro ha hb
        show Sd C EX _ δ (okR (if ds.length = l1 ∧ es.length = l2 then runF n f (ds ++ es) else .bad))
        by_cases hl : ds.length = l1 ∧ es.length = l2
        · rw [if_pos hl]
          unfold runF
          by_cases hn : (ds ++ es).length = n
          · rw [if_pos hn]
            cases hf : f (ds ++ es) with
            | bad => trivial
            | ex m => trivial
            | ok d =>
              refine fun B G H σ e1 e2 E Q q => ha B G H σ e1 e2 E _ fun vs H1 s1 r1 => hb B (ext G H H1) H1 σ (ext_r e1 s1) (e2.trans s1) (E.step s1) _ fun zs H2 s2 r2 => ?_
              rw [ext_ext s1 s2] at r2
              have s12 := s1.trans s2
              have r1' : Dats (ext G H H2) vs ds := r1.same (by rw [← ext_ext s1 s2]; exact ext_l)
              refine ⟨by rw [r1.len]; exact hl.1, by rw [r2.len]; exact hl.2, ds ++ es, ext G H H2, hn, ext_r e1 s12, r1'.app r2, ?_⟩
              rw [hf]
              intro v H3 s3 r3
              rw [ext_ext s12 s3] at r3
              exact q v H3 (s12.trans s3) r3
          · rw [if_neg hn]; trivial
        · rw [if_neg hl]; trivial
section
variable {P : Program} {w : World} {K : PySem.W.Frag} {mg : Str → Option Value} {base : Heap} {C : Addr}
/-- a def of the top: st its statement, kws its keyword-only defaults -/
def DefAt (K : PySem.W.Frag) (mg : Str → Option Value) (st : Stmt) (x : Str) (kws : List (Str × V)) : Prop := ∃ f fd, mg x = some (.ref f) ∧ FunD K x x (defArgs st) (defBody st) (defScope st) [] kws f fd
structure Cal (P : Program) (w : World) (K : PySem.W.Frag) (mg : Str → Option Value) (base : Heap) (k : Nat) (x : Str) (dvs : List V) (sp : Sp) : Prop where
  ex : ∃ f fd ps ds, mg x = some (.ref f) ∧ PySem.W.keepIn K (.ref f) = true ∧ FnOk P w K mg base (L2.CX P w) k f fd ps sp ∧ Binds K fd ps ds ∧ Vals dvs ds
structure CalN (P : Program) (w : World) (K : PySem.W.Frag) (mg : Str → Option Value) (base : Heap) (k : Nat) (x : Str) (n : Nat) (ks : List Str) (sp : Sp) : Prop where
  ex : ∃ f fd ps g, mg x = some (.ref f) ∧ PySem.W.keepIn K (.ref f) = true ∧ FnOk P w K mg base (L2.CX P w) k f fd ps sp ∧ KBn K fd ps n ks g (fun vs zs => vs ++ zs)
structure CalG (P : Program) (w : World) (K : PySem.W.Frag) (mg : Str → Option Value) (base : Heap) (k : Nat) (x : Str) (dvs : List V) (sp : SpG) : Prop where
  ex : ∃ f fd ps ds, mg x = some (.ref f) ∧ PySem.W.keepIn K (.ref f) = true ∧ GFn P w K mg base k f fd ps sp ∧ Binds K fd ps ds ∧ Vals dvs ds
structure CalGN (P : Program) (w : World) (K : PySem.W.Frag) (mg : Str → Option Value) (base : Heap) (k : Nat) (x : Str) (n : Nat) (ks : List Str) (sp : SpG) : Prop where
  ex : ∃ f fd ps g, mg x = some (.ref f) ∧ PySem.W.keepIn K (.ref f) = true ∧ GFn P w K mg base k f fd ps sp ∧ KBn K fd ps n ks g (fun vs zs => vs ++ zs)
end
section
variable {X : Cx} {k : Nat} {x : Str} {dvs : List V} {sp : Sp} {sg : SpG} {E : XK} {p pos : Pos} {e : Expr} {es : List Expr} {kws : List Keyword} {t tk : TA} {n m : Nat} {ks : List Str}
theorem pe_cal (c : Cal X.prog X.w X.K X.mg X.base k x dvs sp) (hr : Room k X.A) (hx : Passes (L2.CX X.prog X.w) X E) (ha : PA X (e :: es) t) (hg : Gl X x := by rfl)
    (hdb : (x == ("__debug__" : Str)) = false := by decide) (he : starEach (e :: es) X.env = (false, eval e X.env) :: starEach es X.env := by rfl) (hpl : (backTo pos (starEach es X.env)).any (·.1) = false := by rfl) :
    PE X (.Call (.Name x p) (e :: es) [] pos) (tCall sp dvs E t) := by
  obtain ⟨f, fd, ps, ds, h1, h2, h3, h4, h5⟩ := c.ex
  exact pe_call h3 hr hg h1 h2 h4 h5 hx ha hdb he hpl
theorem pe_calN (c : CalN X.prog X.w X.K X.mg X.base k x n ks sp) (hr : Room k X.A) (hx : Passes (L2.CX X.prog X.w) X E) (ha : PA X (e :: es) t) (hkw : PK X kws tk) (hg : Gl X x := by rfl) (hm : ks.length = m := by rfl)
    (hall : (backToKw pos (keywordEach kws X.env)).all (·.1.isSome) = true := by rfl) (hks : (backToKw pos (keywordEach kws X.env)).filterMap (·.1) = ks := by rfl)
    (hdb : (x == ("__debug__" : Str)) = false := by decide) (he : starEach (e :: es) X.env = (false, eval e X.env) :: starEach es X.env := by rfl)
    (hpl : ((backTo pos (starEach (e :: es) X.env)).any (·.1) || (backToKw pos (keywordEach kws X.env)).any (·.1.isNone)) = false := by rfl) :
    PE X (.Call (.Name x p) (e :: es) kws pos) (tCallN n m sp (fun vs zs => vs ++ zs) E t tk) := by
  subst hm
  obtain ⟨f, fd, ps, g, h1, h2, h3, h4⟩ := c.ex
  exact pe_callN h3 hr hg h1 h2 h4 hx ha hkw hall hks hdb he hpl
theorem nostop0 {K : PySem.W.Frag} : NoStop K E0 := fun _ _ _ h => h.elim
theorem pe_calG {lp : Pos} {lpos : Pos} (c : CalG X.prog X.w X.K X.mg X.base k x dvs sg) (hr : Room (k + 3) X.A) (ml : X.mg "list" = none) (ha : PA X (e :: es) t) (hg : Gl X x := by rfl) (hgl : Gl X "list" := by rfl)
    (hdb : (x == ("__debug__" : Str)) = false := by decide) (he : starEach (e :: es) X.env = (false, eval e X.env) :: starEach es X.env := by rfl) (hpl : (backTo pos (starEach es X.env)).any (·.1) = false := by rfl)
    (hl : starEach [.Call (.Name x p) (e :: es) [] pos] X.env = (false, eval (.Call (.Name x p) (e :: es) [] pos) X.env) :: starEach [] X.env := by rfl) :
    PE X (.Call (.Name "list" lp) [.Call (.Name x p) (e :: es) [] pos] [] lpos) (tListG (tCallG sg dvs E0 t)) := by
  obtain ⟨f, fd, ps, ds, h1, h2, h3, h4, h5⟩ := c.ex
  exact pe_listG (pgen_call (E := E0) h3 (hr.mono (by omega)) hg h1 h2 h4 h5 ha hdb he hpl) passL nostop0 hr hgl ml boot_list (by decide) (by decide) hl
theorem pe_calGN {lp : Pos} {lpos : Pos} (c : CalGN X.prog X.w X.K X.mg X.base k x n ks sg) (hr : Room (k + 3) X.A) (ml : X.mg "list" = none) (ha : PA X (e :: es) t) (hkw : PK X kws tk) (hg : Gl X x := by rfl) (hm : ks.length = m := by rfl) (hgl : Gl X "list" := by rfl)
    (hall : (backToKw pos (keywordEach kws X.env)).all (·.1.isSome) = true := by rfl) (hks : (backToKw pos (keywordEach kws X.env)).filterMap (·.1) = ks := by rfl)
    (hdb : (x == ("__debug__" : Str)) = false := by decide) (he : starEach (e :: es) X.env = (false, eval e X.env) :: starEach es X.env := by rfl)
    (hpl : ((backTo pos (starEach (e :: es) X.env)).any (·.1) || (backToKw pos (keywordEach kws X.env)).any (·.1.isNone)) = false := by rfl)
    (hl : starEach [.Call (.Name x p) (e :: es) kws pos] X.env = (false, eval (.Call (.Name x p) (e :: es) kws pos) X.env) :: starEach [] X.env := by rfl) :
    PE X (.Call (.Name "list" lp) [.Call (.Name x p) (e :: es) kws pos] [] lpos) (tListG (tCallGN n m sg (fun vs zs => vs ++ zs) E0 t tk)) := by
  subst hm
  obtain ⟨f, fd, ps, g, h1, h2, h3, h4⟩ := c.ex
  exact pe_listG (pgen_callN (E := E0) h3 (hr.mono (by omega)) hg h1 h2 h4 ha hkw hall hks hdb he hpl) passL nostop0 hr hgl ml boot_list (by decide) (by decide) hl
theorem pe_gl {i : Int} (h : ∃ t, X.mg x = some (.int i t)) (hg : Gl X x := by rfl) (hd : (x == ("__debug__" : Str)) = false := by decide) : PE X (.Name x pos) (tC (.int i)) := by
  obtain ⟨t, h⟩ := h
  exact pe_glob hg h ⟨t, rfl⟩ hd
theorem pe_ty {T : String} (hm : X.mg x = none) (hv : bootBuiltins x = some (.type T)) (hg : Gl X x := by rfl) (hn : x ≠ "__name__" := by decide) (hd : (x == ("__debug__" : Str)) = false := by decide) : PE X (.Name x pos) (tC (.ty T)) :=
  pe_bltn hg hm hv rfl hn hd
theorem passE {C : Addr} (hs : X.stack = X.env :: X.outer) (hf : X.env.frame = some X.env.locals) (hex : X.ex = []) {E₁ : Value → Shared → Prop}
    (hx : X.xe = fun e s' => wpAny (model X.prog X.w) X.A (leaving X.env e) (fun _ s'' => CX X.prog X.w X.outer X.H_0 X.s_0 E e s'') E₁ s') : Passes (L2.CX X.prog X.w) X (EC C E) := passes_call (takes_of hs hf hex hx) fun _ _ _ _ h => h.2
theorem hu65 {A : Around} {k : Nat} (r : Room k A) : A.units + 65 < cLine := by have := r.un; omega
end
section
variable {P : Program} {w : World} {K : PySem.W.Frag} {mg : Str → Option Value} {base : Heap} {C : Addr} {st : Stmt} {x : Str} {N ps : List Str} {k n : Nat} {f : PF} {g : PG'}
/-- THE RULE: a def without defaults, raising nothing -/
theorem cal_of0 (D : DefAt K mg st x []) (S : FnScope N ps (defScope st)) (hn : ps.length = n)
    (hb : ∀ (kV doc pm : Value) (an : Option Addr) (cdv ct : Value) (us : List Value), us.length = ps.length → bindArgs (PySem.W.fnOf x x (defArgs st) (defBody st) (defScope st) .none kV doc pm an cdv ct) ⟨us, []⟩ = pure (ps.zip us))
    (ts : TS) (inst : RS C E0 ts) (hf : ∀ ds, ds.length = n → Ref (f ds) (outF0 (inst.run (startA N.length ds))))
    (hbody : ∀ (f : Addr) (cdv : Value) (A : Around) (outer : List Env) (s : Shared) (H : Hp) (E : XK), Room k (A.deeper (envOfC x (defScope st) s.heap.objs.size f cdv)) → PSs (cxOf (L2.CX P w) P w K mg base N x (defScope st) f cdv A outer s H E) (defBody st) ts) :
    Cal P w K mg base (k + 1) x [] (spF C n f) := by
  obtain ⟨a, fd, h1, F⟩ := D
  refine ⟨a, fd, ps, [], h1, F.kp, ?_, F.bindsN hb, .nil⟩
  refine F.ok S (fun vs H Q E h => by rw [hn]; exact spF_len vs H Q E h) fun cdv A outer s H vs Q E hr h => ⟨ts, hbody a cdv A outer s H E hr, body_run0 h hf⟩
/-- .. raising the error of the class at C -/
theorem cal_ofE (D : DefAt K mg st x []) (S : FnScope N ps (defScope st)) (hn : ps.length = n)
    (hb : ∀ (kV doc pm : Value) (an : Option Addr) (cdv ct : Value) (us : List Value), us.length = ps.length → bindArgs (PySem.W.fnOf x x (defArgs st) (defBody st) (defScope st) .none kV doc pm an cdv ct) ⟨us, []⟩ = pure (ps.zip us))
    (ts : XK → TS) (inst : ∀ E, RS C E (ts E)) (hf : ∀ E ds, ds.length = n → Ref (f ds) (outF ((inst E).run (startA N.length ds))))
    (hbody : ∀ (f : Addr) (cdv : Value) (A : Around) (outer : List Env) (s : Shared) (H : Hp) (E : XK), Room k (A.deeper (envOfC x (defScope st) s.heap.objs.size f cdv)) → PSs (cxOf (L2.CX P w) P w K mg base N x (defScope st) f cdv A outer s H E) (defBody st) (ts E)) :
    Cal P w K mg base (k + 1) x [] (spF C n f) := by
  obtain ⟨a, fd, h1, F⟩ := D
  refine ⟨a, fd, ps, [], h1, F.kp, ?_, F.bindsN hb, .nil⟩
  refine F.ok S (fun vs H Q E h => by rw [hn]; exact spF_len vs H Q E h) fun cdv A outer s H vs Q E hr h => ⟨ts E, hbody a cdv A outer s H E hr, @body_run _ _ _ _ _ _ _ _ _ (inst E) h (hf E)⟩
/-- .. with keyword-only parameters: called with keywords, and without -/
theorem cal_ofK {kws : List (Str × V)} {ks : List Str} {m : Nat} (D : DefAt K mg st x kws) (S : FnScope N ps (defScope st)) (hn : ps.length = n) (hk : kws ≠ []) (hks : kws.map (·.1) = ks) (hm : m + kws.length = ps.length)
    (hb0 : ∀ (D : Addr) (doc pm : Value) (an : Option Addr) (cdv ct : Value) (us ws : List Value), us.length = m → ws.length = kws.length →
      KwChain D ((kws.map (·.1)).zip ws) (bindArgs (PySem.W.fnOf x x (defArgs st) (defBody st) (defScope st) .none (.ref D) doc pm an cdv ct) ⟨us, []⟩) (ps.zip (us ++ ws)))
    (hbk : ∀ (D : Addr) (doc pm : Value) (an : Option Addr) (cdv ct : Value) (us mv ws : List Value), us.length = m → mv.length = 0 → ws.length = ks.length →
      KwChain D (([] : List Str).zip mv) (bindArgs (PySem.W.fnOf x x (defArgs st) (defBody st) (defScope st) .none (.ref D) doc pm an cdv ct) ⟨us, ks.zip ws⟩) (ps.zip (us ++ ws)))
    (ts : XK → TS) (inst : ∀ E, RS C E (ts E)) (hf : ∀ E ds, ds.length = n → Ref (f ds) (outF ((inst E).run (startA N.length ds))))
    (hbody : ∀ (f : Addr) (cdv : Value) (A : Around) (outer : List Env) (s : Shared) (H : Hp) (E : XK), Room k (A.deeper (envOfC x (defScope st) s.heap.objs.size f cdv)) → PSs (cxOf (L2.CX P w) P w K mg base N x (defScope st) f cdv A outer s H E) (defBody st) (ts E)) :
    Cal P w K mg base (k + 1) x (kws.map (·.2)) (spF C n f) ∧ CalN P w K mg base (k + 1) x m ks (spF C n f) := by
  obtain ⟨a, fd, h1, F⟩ := D
  have ok : FnOk P w K mg base (L2.CX P w) (k + 1) a fd ps (spF C n f) := F.ok S (fun vs H Q E h => by rw [hn]; exact spF_len vs H Q E h) fun cdv A outer s H vs Q E hr h => ⟨ts E, hbody a cdv A outer s H E hr, @body_run _ _ _ _ _ _ _ _ _ (inst E) h (hf E)⟩
  refine ⟨⟨?_⟩, ⟨?_⟩⟩
  · obtain ⟨ds, r, b⟩ := F.binds0 m hk hm hb0
    exact ⟨a, fd, ps, ds, h1, F.kp, ok, b, r⟩
  · obtain ⟨mv, b⟩ := F.kbinds0 m ks [] (fun us _ ws => us ++ ws) hk (fun q hq => by cases hq) (fun r1 _ r3 => r1.append r3) (fun D doc pm an cdv ct us mv ws l1 l2 l3 => hbk D doc pm an cdv ct us mv ws l1 l2 l3)
    exact ⟨a, fd, ps, _, h1, F.kp, ok, b⟩
/-- a generator def -/
theorem gfn_at {kws : List (Str × V)} {a : Addr} {fd : FuncData} (F : FunD K x x (defArgs st) (defBody st) (defScope st) [] kws a fd) (S : GScope N ps (defScope st)) (hn : ps.length = n)
    (tg : TGn) (inst : RGn C E0 tg) (hf : ∀ ds, ds.length = n → Ref (g ds) (outG (inst.run [] (startA N.length ds))))
    (hbody : ∀ (f : Addr) (cdv : Value) (A : Around) (outer : List Env) (s : Shared) (H : Hp) (E : XK) (pn : List (Addr × Obj)), Room k (A.deeper (envOfC x (defScope st) s.heap.objs.size f cdv)) → GSs (gcxOf P w K mg base N x (defScope st) f cdv A outer s H E pn) (defBody st) tg) :
    GFn P w K mg base (k + 1) a fd ps (spGF C n g) := by
  obtain ⟨oc, od, dV, kV, doc, pm, an, cdv, ct, osl, rfl, lk, hcd, _, _⟩ := F.ex
  exact gfn_of lk hcd S (fun vs H Q E h => by rw [hn]; exact spGF_len vs H Q E h) fun A outer s H vs Q E pn hr h => ⟨tg, hbody a cdv A outer s H E pn hr, gbody_run h hf⟩
theorem calG_of0 (D : DefAt K mg st x []) (S : GScope N ps (defScope st)) (hn : ps.length = n)
    (hb : ∀ (kV doc pm : Value) (an : Option Addr) (cdv ct : Value) (us : List Value), us.length = ps.length → bindArgs (PySem.W.fnOf x x (defArgs st) (defBody st) (defScope st) .none kV doc pm an cdv ct) ⟨us, []⟩ = pure (ps.zip us))
    (tg : TGn) (inst : RGn C E0 tg) (hf : ∀ ds, ds.length = n → Ref (g ds) (outG (inst.run [] (startA N.length ds))))
    (hbody : ∀ (f : Addr) (cdv : Value) (A : Around) (outer : List Env) (s : Shared) (H : Hp) (E : XK) (pn : List (Addr × Obj)), Room k (A.deeper (envOfC x (defScope st) s.heap.objs.size f cdv)) → GSs (gcxOf P w K mg base N x (defScope st) f cdv A outer s H E pn) (defBody st) tg) :
    CalG P w K mg base (k + 1) x [] (spGF C n g) := by
  obtain ⟨a, fd, h1, F⟩ := D
  exact ⟨a, fd, ps, [], h1, F.kp, gfn_at F S hn tg inst hf hbody, F.bindsN hb, .nil⟩
theorem calG_ofK {kws : List (Str × V)} {ks : List Str} {m : Nat} (D : DefAt K mg st x kws) (S : GScope N ps (defScope st)) (hn : ps.length = n) (hk : kws ≠ [])
    (hbk : ∀ (D : Addr) (doc pm : Value) (an : Option Addr) (cdv ct : Value) (us mv ws : List Value), us.length = m → mv.length = 0 → ws.length = ks.length →
      KwChain D (([] : List Str).zip mv) (bindArgs (PySem.W.fnOf x x (defArgs st) (defBody st) (defScope st) .none (.ref D) doc pm an cdv ct) ⟨us, ks.zip ws⟩) (ps.zip (us ++ ws)))
    (tg : TGn) (inst : RGn C E0 tg) (hf : ∀ ds, ds.length = n → Ref (g ds) (outG (inst.run [] (startA N.length ds))))
    (hbody : ∀ (f : Addr) (cdv : Value) (A : Around) (outer : List Env) (s : Shared) (H : Hp) (E : XK) (pn : List (Addr × Obj)), Room k (A.deeper (envOfC x (defScope st) s.heap.objs.size f cdv)) → GSs (gcxOf P w K mg base N x (defScope st) f cdv A outer s H E pn) (defBody st) tg) :
    CalGN P w K mg base (k + 1) x m ks (spGF C n g) := by
  obtain ⟨a, fd, h1, F⟩ := D
  obtain ⟨mv, b⟩ := F.kbinds0 m ks [] (fun us _ ws => us ++ ws) hk (fun q hq => by cases hq) (fun r1 _ r3 => r1.append r3) (fun D doc pm an cdv ct us mv ws l1 l2 l3 => hbk D doc pm an cdv ct us mv ws l1 l2 l3)
  exact ⟨a, fd, ps, _, h1, F.kp, gfn_at F S hn tg inst hf hbody, b⟩
end
end DL
end
section
set_option Elab.async false
set_option linter.all false
set_option warn.classDefReducibility false
set_option synthInstance.maxSize 1000000
set_option synthInstance.maxHeartbeats 4000000
set_option maxRecDepth 100000
set_option maxHeartbeats 4000000
/-! DEFn: the defs of the text, each with its reading, what it computes and its promise. Printed by gen.py. -/
namespace DL
open PySem L2 GX PyProof.Rows TLX

structure Tx (mg : Str → Option Value) : Prop where
  n_len : mg "len" = none
  n_range : mg "range" = none
  n_sorted : mg "sorted" = none
  n_list : mg "list" = none
  n_tuple : mg "tuple" = none
  n_min : mg "min" = none
  n_max : mg "max" = none
  n_abs : mg "abs" = none
  n_int : mg "int" = none
  n_isinstance : mg "isinstance" = none
  n_enumerate : mg "enumerate" = none
  n_bool : mg "bool" = none
  n_str : mg "str" = none
  c_MAX_NODES : ∃ t, mg "MAX_NODES" = some (.int 64 t)
  c_MAX_LISTED : ∃ t, mg "MAX_LISTED" = some (.int 6 t)
  c_MAX_SIMPLE : ∃ t, mg "MAX_SIMPLE" = some (.int 4 t)
  c_MAX_LOOPED : ∃ t, mg "MAX_LOOPED" = some (.int 3 t)
  c_MAX_MAPS : ∃ t, mg "MAX_MAPS" = some (.int 4096 t)
  c_MAX_RENAMED : ∃ t, mg "MAX_RENAMED" = some (.int 9 t)
  c_MAX_TOLD : ∃ t, mg "MAX_TOLD" = some (.int 4 t)
  c_MAX_TOLD_WITH_LOOPS : ∃ t, mg "MAX_TOLD_WITH_LOOPS" = some (.int 3 t)

section
variable {P : Program} {w : World} {K : PySem.W.Frag} {mg : Str → Option Value} {base : Heap} {C fI : Addr}

end
end DL
end
section
set_option Elab.async false
set_option linter.all false
set_option warn.classDefReducibility false
set_option synthInstance.maxSize 1000000
set_option synthInstance.maxHeartbeats 4000000
set_option maxRecDepth 100000
set_option maxHeartbeats 4000000
/-! DEFn: the defs of the text, each with its reading, what it computes and its promise. Printed by gen.py. -/
namespace DL
open PySem L2 GX PyProof.Rows TLX

section
variable {P : Program} {w : World} {K : PySem.W.Frag} {mg : Str → Option Value} {base : Heap} {C fI : Addr}

/-! _law_telling_refused -/
abbrev rdlaw_telling_refused (K : PySem.W.Frag) (C : Addr) (f__law_same : PF) (f__law_telling : PF) : TS := (tSeq (tAsg (tTup (tCons (tOp (rI0 fun i j => .int (i + j)) (tC (.int 5)) (tOp (rI (fun _ j => 0 < j) fun i j => .int (i % j)) (tCB rInt1 (tCons (tVar 0) tNil)) (tC (.int 60)))) (tCons (tTup (tCons (tTup (tCons (tC (.int 0)) (tCons (tC (.int 1)) tNil))) tNil)) tNil))) (gName 1)) (tSeq (tAsg (tTup (tCons (tOp (rI0 fun i j => .int (i + j)) (tC (.int 4)) (tOp (rI (fun _ j => 0 < j) fun i j => .int (i % j)) (tCB rInt1 (tCons (tVar 0) tNil)) (tC (.int 61)))) (tCons (tTup (tCons (tTup (tCons (tC (.int 1)) (tCons (tC (.int 1)) tNil))) tNil)) tNil))) (gName 2)) (tSeq (tFor (iList K (tLst (tCons (tTup (tCons (tVar 1) (tCons (tVar 1) tNil))) (tCons (tTup (tCons (tVar 1) (tCons (tTup (tCons (tC (.int 2)) (tCons (tTup (tCons (tTup (tCons (tC (.int 0)) (tCons (tC (.int 1)) tNil))) tNil)) tNil))) tNil))) (tCons (tTup (tCons (tTup (tCons (tC (.int 0)) (tCons (tTup tNil) tNil))) (tCons (tVar 1) tNil))) tNil))))) (gName 3) (tSeq (tIfS (tNot (tB (tCall (spF C 2 f__law_same) [] E0 (tCons (tTup (tCons (tC (.str "too large")) (tCons (tC (.int 4)) tNil))) (tCons (tCall (spF C 2 f__law_telling) [] E0 (tCons (tOp (rIxT K) (tVar 3) (tC (.int 0))) (tCons (tOp (rIxT K) (tVar 3) (tC (.int 1))) tNil))) tNil))))) (tSeq (tRet (tC (.bl false))) tNext) tNext) tNext)) (tSeq (tFor (iList K (tLst (tCons (tTup (tCons (tVar 2) (tCons (tVar 2) tNil))) (tCons (tTup (tCons (tVar 2) (tCons (tTup (tCons (tC (.int 0)) (tCons (tTup tNil) tNil))) tNil))) (tCons (tTup (tCons (tTup (tCons (tC (.int 3)) (tCons (tTup (tCons (tTup (tCons (tC (.int 0)) (tCons (tC (.int 1)) tNil))) tNil)) tNil))) (tCons (tVar 2) tNil))) (tCons (tTup (tCons (tTup (tCons (tC (.int 1)) (tCons (tTup (tCons (tTup (tCons (tC (.int 0)) (tCons (tC (.int 0)) tNil))) tNil)) tNil))) (tCons (tTup (tCons (tOp (rIxT K) (tVar 2) (tC (.int 0))) (tCons (tTup tNil) tNil))) tNil))) tNil)))))) (gName 3) (tSeq (tIfS (tNot (tB (tCall (spF C 2 f__law_same) [] E0 (tCons (tTup (tCons (tC (.str "too large")) (tCons (tC (.int 3)) tNil))) (tCons (tCall (spF C 2 f__law_telling) [] E0 (tCons (tOp (rIxT K) (tVar 3) (tC (.int 0))) (tCons (tOp (rIxT K) (tVar 3) (tC (.int 1))) tNil))) tNil))))) (tSeq (tRet (tC (.bl false))) tNext) tNext) tNext)) (tSeq (tRet (tCall (spF C 2 f__law_same) [] E0 (tCons (tTup (tCons (tC (.str "too large")) (tCons (tC (.int 3)) tNil))) (tCons (tCall (spF C 2 f__law_telling) [] E0 (tCons (tTup (tCons (tOp (rIxT K) (tVar 2) (tC (.int 0))) (tCons (tTup tNil) tNil))) (tCons (tTup (tCons (tC (.int 2)) (tCons (tTup (tCons (tTup (tCons (tC (.int 1)) (tCons (tC (.int 1)) tNil))) tNil)) tNil))) tNil))) tNil)))) tNext)))))
def inlaw_telling_refused (K : PySem.W.Frag) (C : Addr) (f__law_same : PF) (f__law_telling : PF) : RS C E0 (rdlaw_telling_refused K C f__law_same f__law_telling) := inferInstance
def Flaw_telling_refused (K : PySem.W.Frag) (C : Addr) (f__law_same : PF) (f__law_telling : PF) : PF := fun ds => outF0 ((inlaw_telling_refused K C f__law_same f__law_telling).run (startA 4 ds))
abbrev Nlaw_telling_refused : List Str := ["_law_more", "_law_simple", "_law_looped", "_law_pair"]
theorem sclaw_telling_refused : FnScope Nlaw_telling_refused ["_law_more"] (defScope (K16.top 63)) := ⟨rfl, rfl, rfl, by decide +kernel, rfl, by decide +kernel, by decide +kernel⟩
theorem oklaw_telling_refused {f__law_same : PF} {f__law_telling : PF} {f : PF} (T : Tx mg) (D : DefAt K mg (K16.top 63) "_law_telling_refused" []) (c__law_same : Cal P w K mg base 40 "_law_same" [] (spF C 2 f__law_same)) (c__law_telling : Cal P w K mg base 33 "_law_telling" [] (spF C 2 f__law_telling)) (hf : ∀ ds, ds.length = 1 → Ref (f ds) (Flaw_telling_refused K C f__law_same f__law_telling ds)) : Cal P w K mg base 41 "_law_telling_refused" [] (spF C 1 f) := by
  refine cal_of0 (ps := ["_law_more"]) D sclaw_telling_refused rfl (fun _ _ _ _ _ _ us hl => match us, hl with | [_], _ => rfl) (rdlaw_telling_refused K C f__law_same f__law_telling) (inlaw_telling_refused K C f__law_same f__law_telling) hf fun f cdv A outer s H E hr => ?_
  exact (pss_cons (ps_set (i := 1) sclaw_telling_refused.nd rfl (by first | exact Or.inl rfl | exact Or.inr rfl) (pe_tup (pa_cons (pe_op op_add pe_int (pe_op op_mod (pe_callTy cr_int1 (by rfl) T.n_int (by decide +kernel) (pa_cons (pv 0) pa_nil)) pe_int)) (pa_cons (pe_tup (pa_cons (pe_tup (pa_cons pe_int (pa_cons pe_int pa_nil))) pa_nil)) pa_nil)))) (pss_cons (ps_set (i := 2) sclaw_telling_refused.nd rfl (by first | exact Or.inl rfl | exact Or.inr rfl) (pe_tup (pa_cons (pe_op op_add pe_int (pe_op op_mod (pe_callTy cr_int1 (by rfl) T.n_int (by decide +kernel) (pa_cons (pv 0) pa_nil)) pe_int)) (pa_cons (pe_tup (pa_cons (pe_tup (pa_cons pe_int (pa_cons pe_int pa_nil))) pa_nil)) pa_nil)))) (pss_cons (ps_for (passes_of rfl) rfl (pi_list (pe_lst (pa_cons (pe_tup (pa_cons (pv 1) (pa_cons (pv 1) pa_nil))) (pa_cons (pe_tup (pa_cons (pv 1) (pa_cons (pe_tup (pa_cons pe_int (pa_cons (pe_tup (pa_cons (pe_tup (pa_cons pe_int (pa_cons pe_int pa_nil))) pa_nil)) pa_nil))) pa_nil))) (pa_cons (pe_tup (pa_cons (pe_tup (pa_cons pe_int (pa_cons (pe_tup pa_nil) pa_nil))) (pa_cons (pv 1) pa_nil))) pa_nil))))) (pg_name (i := 3) sclaw_telling_refused.nd rfl (by first | exact Or.inl rfl | exact Or.inr rfl)) (pss_cons (ps_if (pt_not (pt_val (pe_cal c__law_same (hr.mono (by decide)) passL (pa_cons (pe_tup (pa_cons pe_str (pa_cons pe_int pa_nil))) (pa_cons (pe_cal c__law_telling (hr.mono (by decide)) passL (pa_cons (pe_ix ix_tup (pv 3) pe_int (fun _ _ => rfl)) (pa_cons (pe_ix ix_tup (pv 3) pe_int (fun _ _ => rfl)) pa_nil))) pa_nil))))) (pss_cons (ps_ret pe_bl) pss_nil) pss_nil) pss_nil)) (pss_cons (ps_for (passes_of rfl) rfl (pi_list (pe_lst (pa_cons (pe_tup (pa_cons (pv 2) (pa_cons (pv 2) pa_nil))) (pa_cons (pe_tup (pa_cons (pv 2) (pa_cons (pe_tup (pa_cons pe_int (pa_cons (pe_tup pa_nil) pa_nil))) pa_nil))) (pa_cons (pe_tup (pa_cons (pe_tup (pa_cons pe_int (pa_cons (pe_tup (pa_cons (pe_tup (pa_cons pe_int (pa_cons pe_int pa_nil))) pa_nil)) pa_nil))) (pa_cons (pv 2) pa_nil))) (pa_cons (pe_tup (pa_cons (pe_tup (pa_cons pe_int (pa_cons (pe_tup (pa_cons (pe_tup (pa_cons pe_int (pa_cons pe_int pa_nil))) pa_nil)) pa_nil))) (pa_cons (pe_tup (pa_cons (pe_ix ix_tup (pv 2) pe_int (fun _ _ => rfl)) (pa_cons (pe_tup pa_nil) pa_nil))) pa_nil))) pa_nil)))))) (pg_name (i := 3) sclaw_telling_refused.nd rfl (by first | exact Or.inl rfl | exact Or.inr rfl)) (pss_cons (ps_if (pt_not (pt_val (pe_cal c__law_same (hr.mono (by decide)) passL (pa_cons (pe_tup (pa_cons pe_str (pa_cons pe_int pa_nil))) (pa_cons (pe_cal c__law_telling (hr.mono (by decide)) passL (pa_cons (pe_ix ix_tup (pv 3) pe_int (fun _ _ => rfl)) (pa_cons (pe_ix ix_tup (pv 3) pe_int (fun _ _ => rfl)) pa_nil))) pa_nil))))) (pss_cons (ps_ret pe_bl) pss_nil) pss_nil) pss_nil)) (pss_cons (ps_ret (pe_cal c__law_same (hr.mono (by decide)) passL (pa_cons (pe_tup (pa_cons pe_str (pa_cons pe_int pa_nil))) (pa_cons (pe_cal c__law_telling (hr.mono (by decide)) passL (pa_cons (pe_tup (pa_cons (pe_ix ix_tup (pv 2) pe_int (fun _ _ => rfl)) (pa_cons (pe_tup pa_nil) pa_nil))) (pa_cons (pe_tup (pa_cons pe_int (pa_cons (pe_tup (pa_cons (pe_tup (pa_cons pe_int (pa_cons pe_int pa_nil))) pa_nil)) pa_nil))) pa_nil))) pa_nil)))) pss_nil)))))
/-! _law_profile_refused -/
abbrev rdlaw_profile_refused (K : PySem.W.Frag) (C : Addr) (f__law_same : PF) (f__law_profile : PF) : TS := (tSeq (tAsg (tTup (tCons (tOp (rI0 fun i j => .int (i + j)) (tC (.int 17)) (tOp (rI (fun _ j => 0 < j) fun i j => .int (i % j)) (tCB rInt1 (tCons (tVar 0) tNil)) (tC (.int 48)))) (tCons (tTup (tCons (tTup (tCons (tC (.int 0)) (tCons (tC (.int 0)) tNil))) (tCons (tTup (tCons (tC (.int 0)) (tCons (tC (.int 1)) tNil))) tNil))) tNil))) (gName 1)) (tSeq (tFor (iList K (tLst (tCons (tC (.bl false)) (tCons (tC (.bl true)) tNil)))) (gName 2) (tSeq (tAsg (tOp (rI0 fun i j => .int (i - j)) (tC (.int 4)) (tCB rInt1 (tCons (tVar 2) tNil))) (gName 3)) (tSeq (tIfS (tNot (tB (tCall (spF C 2 f__law_same) [] E0 (tCons (tTup (tCons (tC (.str "too large")) (tCons (tVar 3) tNil))) (tCons (tCall (spF C 4 f__law_profile) [] E0 (tCons (tVar 1) (tCons (tOp (rI0 fun i j => .int (i + j)) (tOp (rI0 fun i j => .int (i + j)) (tVar 3) (tC (.int 1))) (tOp (rI (fun _ j => 0 < j) fun i j => .int (i % j)) (tCB rInt1 (tCons (tVar 0) tNil)) (tC (.int 1000)))) (tCons (tVar 2) (tCons (tC (.bl true)) tNil))))) tNil))))) (tSeq (tRet (tC (.bl false))) tNext) tNext) (tSeq (tIfS (tNot (tB (tCall (spF C 2 f__law_same) [] E0 (tCons (tTup (tCons (tC (.str "too large")) (tCons (tVar 3) tNil))) (tCons (tCall (spF C 4 f__law_profile) [] E0 (tCons (tTup (tCons (tC (.int 1)) (tCons (tTup tNil) tNil))) (tCons (tOp (rI0 fun i j => .int (i + j)) (tVar 3) (tC (.int 1))) (tCons (tVar 2) (tCons (tC (.bl false)) tNil))))) tNil))))) (tSeq (tRet (tC (.bl false))) tNext) tNext) (tSeq (tIfS (tNot (tB (tCall (spF C 2 f__law_same) [] E0 (tCons (tTup (tCons (tC (.str "too large")) (tCons (tC (.int 4096)) tNil))) (tCons (tCall (spF C 4 f__law_profile) [] E0 (tCons (tVar 1) (tCons (tC (.int 3)) (tCons (tVar 2) (tCons (tC (.bl false)) tNil))))) tNil))))) (tSeq (tRet (tC (.bl false))) tNext) tNext) tNext))))) (tSeq (tIfS (tTest (tOp rEq (tOp (rI (fun _ j => 0 < j) fun i j => .int (i % j)) (tCB rInt1 (tCons (tVar 0) tNil)) (tC (.int 8))) (tC (.int 1)))) (tSeq (tIfS (tNot (tB (tCall (spF C 2 f__law_same) [] E0 (tCons (tTup (tCons (tC (.str "too large")) (tCons (tC (.int 4096)) tNil))) (tCons (tCall (spF C 4 f__law_profile) [] E0 (tCons (tTup (tCons (tOp (rI0 fun i j => .int (i + j)) (tC (.int 9)) (tOp (rI (fun _ j => 0 < j) fun i j => .int (i % j)) (tCB rInt1 (tCons (tOp (rI CDiv fun i j => .int (i / j)) (tVar 0) (tC (.int 8))) tNil)) (tC (.int 56)))) (tCons (tTup (tCons (tTup (tCons (tC (.int 0)) (tCons (tC (.int 1)) tNil))) tNil)) tNil))) (tCons (tC (.int 4)) (tCons (tC (.bl false)) (tCons (tC (.bl true)) tNil))))) tNil))))) (tSeq (tRet (tC (.bl false))) tNext) tNext) tNext) tNext) (tSeq (tIfS (tNot (tB (tCall (spF C 2 f__law_same) [] E0 (tCons (tTup (tCons (tC (.str "told")) (tCons (tLst (tCons (tC (.int 1)) (tCons (tOp (rIxT K) (tVar 1) (tC (.int 0))) tNil))) tNil))) (tCons (tCall (spF C 4 f__law_profile) [] E0 (tCons (tVar 1) (tCons (tC (.int 1)) (tCons (tC (.bl false)) (tCons (tC (.bl true)) tNil))))) tNil))))) (tSeq (tRet (tC (.bl false))) tNext) tNext) (tSeq (tRet (tCall (spF C 2 f__law_same) [] E0 (tCons (tTup (tCons (tC (.str "told")) (tCons (tLst (tCons (tC (.int 1)) (tCons (tOp (rIxT K) (tVar 1) (tC (.int 0))) (tCons (tC (.int 1)) tNil)))) tNil))) (tCons (tCall (spF C 4 f__law_profile) [] E0 (tCons (tVar 1) (tCons (tC (.int 1)) (tCons (tC (.bl true)) (tCons (tC (.bl true)) tNil))))) tNil)))) tNext)))))
def inlaw_profile_refused (K : PySem.W.Frag) (C : Addr) (f__law_same : PF) (f__law_profile : PF) : RS C E0 (rdlaw_profile_refused K C f__law_same f__law_profile) := inferInstance
def Flaw_profile_refused (K : PySem.W.Frag) (C : Addr) (f__law_same : PF) (f__law_profile : PF) : PF := fun ds => outF0 ((inlaw_profile_refused K C f__law_same f__law_profile).run (startA 4 ds))
abbrev Nlaw_profile_refused : List Str := ["_law_more", "_law_wide", "_law_flag", "_law_limit"]
theorem sclaw_profile_refused : FnScope Nlaw_profile_refused ["_law_more"] (defScope (K16.top 64)) := ⟨rfl, rfl, rfl, by decide +kernel, rfl, by decide +kernel, by decide +kernel⟩
theorem oklaw_profile_refused {f__law_same : PF} {f__law_profile : PF} {f : PF} (T : Tx mg) (D : DefAt K mg (K16.top 64) "_law_profile_refused" []) (c__law_same : Cal P w K mg base 40 "_law_same" [] (spF C 2 f__law_same)) (c__law_profile : Cal P w K mg base 33 "_law_profile" [] (spF C 4 f__law_profile)) (hf : ∀ ds, ds.length = 1 → Ref (f ds) (Flaw_profile_refused K C f__law_same f__law_profile ds)) : Cal P w K mg base 41 "_law_profile_refused" [] (spF C 1 f) := by
  refine cal_of0 (ps := ["_law_more"]) D sclaw_profile_refused rfl (fun _ _ _ _ _ _ us hl => match us, hl with | [_], _ => rfl) (rdlaw_profile_refused K C f__law_same f__law_profile) (inlaw_profile_refused K C f__law_same f__law_profile) hf fun f cdv A outer s H E hr => ?_
  exact (pss_cons (ps_set (i := 1) sclaw_profile_refused.nd rfl (by first | exact Or.inl rfl | exact Or.inr rfl) (pe_tup (pa_cons (pe_op op_add pe_int (pe_op op_mod (pe_callTy cr_int1 (by rfl) T.n_int (by decide +kernel) (pa_cons (pv 0) pa_nil)) pe_int)) (pa_cons (pe_tup (pa_cons (pe_tup (pa_cons pe_int (pa_cons pe_int pa_nil))) (pa_cons (pe_tup (pa_cons pe_int (pa_cons pe_int pa_nil))) pa_nil))) pa_nil)))) (pss_cons (ps_for (passes_of rfl) rfl (pi_list (pe_lst (pa_cons pe_bl (pa_cons pe_bl pa_nil)))) (pg_name (i := 2) sclaw_profile_refused.nd rfl (by first | exact Or.inl rfl | exact Or.inr rfl)) (pss_cons (ps_set (i := 3) sclaw_profile_refused.nd rfl (by first | exact Or.inl rfl | exact Or.inr rfl) (pe_op op_sub pe_int (pe_callTy cr_int1 (by rfl) T.n_int (by decide +kernel) (pa_cons (pv 2) pa_nil)))) (pss_cons (ps_if (pt_not (pt_val (pe_cal c__law_same (hr.mono (by decide)) passL (pa_cons (pe_tup (pa_cons pe_str (pa_cons (pv 3) pa_nil))) (pa_cons (pe_cal c__law_profile (hr.mono (by decide)) passL (pa_cons (pv 1) (pa_cons (pe_op op_add (pe_op op_add (pv 3) pe_int) (pe_op op_mod (pe_callTy cr_int1 (by rfl) T.n_int (by decide +kernel) (pa_cons (pv 0) pa_nil)) pe_int)) (pa_cons (pv 2) (pa_cons pe_bl pa_nil))))) pa_nil))))) (pss_cons (ps_ret pe_bl) pss_nil) pss_nil) (pss_cons (ps_if (pt_not (pt_val (pe_cal c__law_same (hr.mono (by decide)) passL (pa_cons (pe_tup (pa_cons pe_str (pa_cons (pv 3) pa_nil))) (pa_cons (pe_cal c__law_profile (hr.mono (by decide)) passL (pa_cons (pe_tup (pa_cons pe_int (pa_cons (pe_tup pa_nil) pa_nil))) (pa_cons (pe_op op_add (pv 3) pe_int) (pa_cons (pv 2) (pa_cons pe_bl pa_nil))))) pa_nil))))) (pss_cons (ps_ret pe_bl) pss_nil) pss_nil) (pss_cons (ps_if (pt_not (pt_val (pe_cal c__law_same (hr.mono (by decide)) passL (pa_cons (pe_tup (pa_cons pe_str (pa_cons pe_int pa_nil))) (pa_cons (pe_cal c__law_profile (hr.mono (by decide)) passL (pa_cons (pv 1) (pa_cons pe_int (pa_cons (pv 2) (pa_cons pe_bl pa_nil))))) pa_nil))))) (pss_cons (ps_ret pe_bl) pss_nil) pss_nil) pss_nil))))) (pss_cons (ps_if (pt_cmpR op_eq (pe_op op_mod (pe_callTy cr_int1 (by rfl) T.n_int (by decide +kernel) (pa_cons (pv 0) pa_nil)) pe_int) pe_int (nomark _)) (pss_cons (ps_if (pt_not (pt_val (pe_cal c__law_same (hr.mono (by decide)) passL (pa_cons (pe_tup (pa_cons pe_str (pa_cons pe_int pa_nil))) (pa_cons (pe_cal c__law_profile (hr.mono (by decide)) passL (pa_cons (pe_tup (pa_cons (pe_op op_add pe_int (pe_op op_mod (pe_callTy cr_int1 (by rfl) T.n_int (by decide +kernel) (pa_cons (pe_op op_fdiv (pv 0) pe_int) pa_nil)) pe_int)) (pa_cons (pe_tup (pa_cons (pe_tup (pa_cons pe_int (pa_cons pe_int pa_nil))) pa_nil)) pa_nil))) (pa_cons pe_int (pa_cons pe_bl (pa_cons pe_bl pa_nil))))) pa_nil))))) (pss_cons (ps_ret pe_bl) pss_nil) pss_nil) pss_nil) pss_nil) (pss_cons (ps_if (pt_not (pt_val (pe_cal c__law_same (hr.mono (by decide)) passL (pa_cons (pe_tup (pa_cons pe_str (pa_cons (pe_lst (pa_cons pe_int (pa_cons (pe_ix ix_tup (pv 1) pe_int (fun _ _ => rfl)) pa_nil))) pa_nil))) (pa_cons (pe_cal c__law_profile (hr.mono (by decide)) passL (pa_cons (pv 1) (pa_cons pe_int (pa_cons pe_bl (pa_cons pe_bl pa_nil))))) pa_nil))))) (pss_cons (ps_ret pe_bl) pss_nil) pss_nil) (pss_cons (ps_ret (pe_cal c__law_same (hr.mono (by decide)) passL (pa_cons (pe_tup (pa_cons pe_str (pa_cons (pe_lst (pa_cons pe_int (pa_cons (pe_ix ix_tup (pv 1) pe_int (fun _ _ => rfl)) (pa_cons pe_int pa_nil)))) pa_nil))) (pa_cons (pe_cal c__law_profile (hr.mono (by decide)) passL (pa_cons (pv 1) (pa_cons pe_int (pa_cons pe_bl (pa_cons pe_bl pa_nil))))) pa_nil)))) pss_nil)))))
/-! _law_widest -/
abbrev rdlaw_widest (K : PySem.W.Frag) (C : Addr) (f__law_same : PF) (f__law_profile : PF) : TS := (tSeq (tOwn (tCons (tTup (tCons (tC (.int 0)) (tCons (tOp (rI0 fun i j => .int (i + j)) (tC (.int 1)) (tOp (rI (fun _ j => 0 < j) fun i j => .int (i % j)) (tCB rInt1 (tCons (tVar 0) tNil)) (tC (.int 63)))) tNil))) (tCons (tTup (tCons (tC (.int 1)) (tCons (tC (.int 1)) tNil))) tNil)) 1) (tSeq (tIfS (tTest (tOp rEq (tOp (rI (fun _ j => 0 < j) fun i j => .int (i % j)) (tCB rInt1 (tCons (tOp (rI CDiv fun i j => .int (i / j)) (tVar 0) (tC (.int 63))) tNil)) (tC (.int 2))) (tC (.int 1)))) (tSeq (tDrop (tBM K "list" rAppend (tVar 1) (tCons (tTup (tCons (tC (.int 2)) (tCons (tC (.int 63)) tNil))) tNil))) tNext) tNext) (tSeq (tAsg (tOp (rI0 fun i j => .int (i - j)) (tOp (rI CMul fun i j => .int (i * j)) (tC (.int 2)) (tCB (rLenQ K) (tCons (tVar 1) tNil))) (tC (.int 1))) (gName 2)) (tSeq (tRet (tCall (spF C 2 f__law_same) [] E0 (tCons (tTup (tCons (tC (.str "told")) (tCons (tLst (tCons (tC (.int 1)) (tCons (tC (.int 64)) (tCons (tC (.int 4096)) (tCons (tVar 2) tNil))))) tNil))) (tCons (tCall (spF C 4 f__law_profile) [] E0 (tCons (tTup (tCons (tC (.int 64)) (tCons (tCB (rTupQ K) (tCons (tVar 1) tNil)) tNil))) (tCons (tC (.int 2)) (tCons (tC (.bl false)) (tCons (tC (.bl true)) tNil))))) tNil)))) tNext))))
def inlaw_widest (K : PySem.W.Frag) (C : Addr) (f__law_same : PF) (f__law_profile : PF) : RS C E0 (rdlaw_widest K C f__law_same f__law_profile) := inferInstance
def Flaw_widest (K : PySem.W.Frag) (C : Addr) (f__law_same : PF) (f__law_profile : PF) : PF := fun ds => outF0 ((inlaw_widest K C f__law_same f__law_profile).run (startA 3 ds))
abbrev Nlaw_widest : List Str := ["_law_more", "_law_edges", "_law_ties"]
theorem sclaw_widest : FnScope Nlaw_widest ["_law_more"] (defScope (K16.top 65)) := ⟨rfl, rfl, rfl, by decide +kernel, rfl, by decide +kernel, by decide +kernel⟩
theorem oklaw_widest {f__law_same : PF} {f__law_profile : PF} {f : PF} (T : Tx mg) (D : DefAt K mg (K16.top 65) "_law_widest" []) (c__law_same : Cal P w K mg base 40 "_law_same" [] (spF C 2 f__law_same)) (c__law_profile : Cal P w K mg base 33 "_law_profile" [] (spF C 4 f__law_profile)) (hf : ∀ ds, ds.length = 1 → Ref (f ds) (Flaw_widest K C f__law_same f__law_profile ds)) : Cal P w K mg base 41 "_law_widest" [] (spF C 1 f) := by
  refine cal_of0 (ps := ["_law_more"]) D sclaw_widest rfl (fun _ _ _ _ _ _ us hl => match us, hl with | [_], _ => rfl) (rdlaw_widest K C f__law_same f__law_profile) (inlaw_widest K C f__law_same f__law_profile) hf fun f cdv A outer s H E hr => ?_
  exact (pss_cons (ps_set (i := 1) sclaw_widest.nd rfl (by first | exact Or.inl rfl | exact Or.inr rfl) (pe_lst (pa_cons (pe_tup (pa_cons pe_int (pa_cons (pe_op op_add pe_int (pe_op op_mod (pe_callTy cr_int1 (by rfl) T.n_int (by decide +kernel) (pa_cons (pv 0) pa_nil)) pe_int)) pa_nil))) (pa_cons (pe_tup (pa_cons pe_int (pa_cons pe_int pa_nil))) pa_nil)))) (pss_cons (ps_if (pt_cmpR op_eq (pe_op op_mod (pe_callTy cr_int1 (by rfl) T.n_int (by decide +kernel) (pa_cons (pe_op op_fdiv (pv 0) pe_int) pa_nil)) pe_int) pe_int (nomark _)) (pss_cons (ps_expr (pe_bm PySem.F.plainAttrs_list PySem.F.slot_list_append PySem.F.type_list_append mt_append (pv 1) (pa_cons (pe_tup (pa_cons pe_int (pa_cons pe_int pa_nil))) pa_nil))) pss_nil) pss_nil) (pss_cons (ps_set (i := 2) sclaw_widest.nd rfl (by first | exact Or.inl rfl | exact Or.inr rfl) (pe_op op_sub (pe_op op_mul pe_int (pe_callB cr_lenQ (by rfl) T.n_len PySem.boot_len (pa_cons (pv 1) pa_nil))) pe_int)) (pss_cons (ps_ret (pe_cal c__law_same (hr.mono (by decide)) passL (pa_cons (pe_tup (pa_cons pe_str (pa_cons (pe_lst (pa_cons pe_int (pa_cons pe_int (pa_cons pe_int (pa_cons (pv 2) pa_nil))))) pa_nil))) (pa_cons (pe_cal c__law_profile (hr.mono (by decide)) passL (pa_cons (pe_tup (pa_cons pe_int (pa_cons (pe_callTy cr_tupQ (by rfl) T.n_tuple (by decide +kernel) (pa_cons (pv 1) pa_nil)) pa_nil))) (pa_cons pe_int (pa_cons pe_bl (pa_cons pe_bl pa_nil))))) pa_nil)))) pss_nil))))
/-! _law_moved -/
abbrev rdlaw_moved (K : PySem.W.Frag) (C : Addr)  : TS := (tSeq (tAsg (tAndV (tVar 2) (tOp rEq (tOp (rI (fun _ j => 0 < j) fun i j => .int (i % j)) (tCB rInt1 (tCons (tVar 1) tNil)) (tC (.int 2))) (tC (.int 1)))) (gName 3)) (tSeq (tAsg (tLc (iTup K (tOp (rIxT K) (tVar 0) (tC (.int 1)))) (gName 10) (tTest (tOp rEq (tOp rEq (tOp (rIxT K) (tVar 10) (tC (.int 0))) (tOp (rIxT K) (tVar 10) (tC (.int 1)))) (tVar 3))) (tVar 10) [10]) (gName 4)) (tSeq (tOwn tNil 5) (tSeq (tFor (iRng1 (tCons (tOp (rIxT K) (tVar 0) (tC (.int 0))) tNil)) (gName 6) (tSeq (tFor (iRng1 (tCons (tOp (rI0 fun i j => .int (i + j)) (tVar 6) (tC (.int 1))) tNil)) (gName 9) (tSeq (tIfS (tAnd (tTest (tOp rEq (tOp rEq (tVar 9) (tVar 6)) (tVar 3))) (tTest (tOp (rInDT K true) (tTup (tCons (tVar 9) (tCons (tVar 6) tNil))) (tOp (rIxT K) (tVar 0) (tC (.int 1)))))) (tSeq (tDrop (tBM K "list" rAppend (tVar 5) (tCons (tTup (tCons (tVar 9) (tCons (tVar 6) tNil))) tNil))) tNext) tNext) tNext)) tNext)) (tSeq (tIfS (tOr (tTest (tOp rEq (tCB (rLenQ K) (tCons (tVar 4) tNil)) (tC (.int 0)))) (tTest (tOp rEq (tCB (rLenQ K) (tCons (tVar 5) tNil)) (tC (.int 0))))) (tSeq (tRet (tVar 0)) tNext) tNext) (tSeq (tAsg (tOp (rIxL K) (tVar 4) (tOp (rI (fun _ j => 0 < j) fun i j => .int (i % j)) (tCB rInt1 (tCons (tOp (rI CDiv fun i j => .int (i / j)) (tVar 1) (tC (.int 2))) tNil)) (tCB (rLenQ K) (tCons (tVar 4) tNil)))) (gName 7)) (tSeq (tAsg (tLc (iTup K (tOp (rIxT K) (tVar 0) (tC (.int 1)))) (gName 10) (tTest (tOp (rNeD K) (tVar 10) (tVar 7))) (tVar 10) [10]) (gName 8)) (tSeq (tRet (tTup (tCons (tOp (rIxT K) (tVar 0) (tC (.int 0))) (tCons (tCB (rTupQ K) (tCons (tCB (rSortedPO K) (tCons (tOp rCat (tVar 8) (tLst (tCons (tOp (rIxL K) (tVar 5) (tOp (rI (fun _ j => 0 < j) fun i j => .int (i % j)) (tCB rInt1 (tCons (tOp (rI CDiv fun i j => .int (i / j)) (tVar 1) (tC (.int 120))) tNil)) (tCB (rLenQ K) (tCons (tVar 5) tNil)))) tNil))) tNil)) tNil)) tNil)))) tNext))))))))
def inlaw_moved (K : PySem.W.Frag) (C : Addr)  : RS C E0 (rdlaw_moved K C ) := inferInstance
def Flaw_moved (K : PySem.W.Frag) (C : Addr)  : PF := fun ds => outF0 ((inlaw_moved K C ).run (startA 11 ds))
abbrev Nlaw_moved : List Str := ["_law_web_here", "_law_draw", "_law_looped", "_law_loop", "_law_full", "_law_free", "_law_v", "_law_gone", "_law_edges", "_law_u", "_law_edge"]
theorem sclaw_moved : FnScope Nlaw_moved ["_law_web_here", "_law_draw", "_law_looped"] (defScope (K16.top 66)) := ⟨rfl, rfl, rfl, by decide +kernel, rfl, by decide +kernel, by decide +kernel⟩
theorem oklaw_moved  {f : PF} (T : Tx mg) (D : DefAt K mg (K16.top 66) "_law_moved" [])  (hf : ∀ ds, ds.length = 3 → Ref (f ds) (Flaw_moved K C  ds)) : Cal P w K mg base 1 "_law_moved" [] (spF C 3 f) := by
  refine cal_of0 (ps := ["_law_web_here", "_law_draw", "_law_looped"]) D sclaw_moved rfl (fun _ _ _ _ _ _ us hl => match us, hl with | [_, _, _], _ => rfl) (rdlaw_moved K C ) (inlaw_moved K C ) hf fun f cdv A outer s H E hr => ?_
  exact (pss_cons (ps_set (i := 3) sclaw_moved.nd rfl (by first | exact Or.inl rfl | exact Or.inr rfl) (pe_and (pv 2) (pe_one (pe_cmpR op_eq (pe_op op_mod (pe_callTy cr_int1 (by rfl) T.n_int (by decide +kernel) (pa_cons (pv 1) pa_nil)) pe_int) pe_int (nomark _))))) (pss_cons (ps_setLc (own := [("_law_edge", 10)]) (i := 4) rfl sclaw_moved.nd rfl rfl (sw_true rfl rfl rfl (by decide +kernel)) (pi_tup (pe_ix ix_tup (pv 0) pe_int (fun _ _ => rfl))) (blkOk_by (own := [("_law_edge", 10)]) (N := Nlaw_moved) (by kernel_rfl)) (fun _ _ _ _ _ => (pg_name (i := 10) sclaw_moved.nd rfl (by first | exact Or.inl rfl | exact Or.inr rfl))) (fun _ _ _ _ _ => (pts_one (pt_cmpR op_eq (pe_cmpR op_eq (pe_ix ix_tup (pv 10) pe_int (fun _ _ => rfl)) (pe_ix ix_tup (pv 10) pe_int (fun _ _ => rfl)) (nomark _)) (pv 3) (nomark _)))) (fun _ _ _ _ _ => (pv 10))) (pss_cons (ps_set (i := 5) sclaw_moved.nd rfl (by first | exact Or.inl rfl | exact Or.inr rfl) (pe_lst pa_nil)) (pss_cons (ps_for (passes_of rfl) rfl (pi_range1 (by rfl) T.n_range (pa_cons (pe_ix ix_tup (pv 0) pe_int (fun _ _ => rfl)) pa_nil)) (pg_name (i := 6) sclaw_moved.nd rfl (by first | exact Or.inl rfl | exact Or.inr rfl)) (pss_cons (ps_for (passes_of rfl) rfl (pi_range1 (by rfl) T.n_range (pa_cons (pe_op op_add (pv 6) pe_int) pa_nil)) (pg_name (i := 9) sclaw_moved.nd rfl (by first | exact Or.inl rfl | exact Or.inr rfl)) (pss_cons (ps_if (pw_and (pt_cmpR op_eq (pe_cmpR op_eq (pv 9) (pv 6) (nomark _)) (pv 3) (nomark _)) (pw_and1 (pt_cmpR (op_notInDT (hu65 hr)) (pe_tup (pa_cons (pv 9) (pa_cons (pv 6) pa_nil))) (pe_ix ix_tup (pv 0) pe_int (fun _ _ => rfl)) (by rfl)))).pt (pss_cons (ps_expr (pe_bm PySem.F.plainAttrs_list PySem.F.slot_list_append PySem.F.type_list_append mt_append (pv 5) (pa_cons (pe_tup (pa_cons (pv 9) (pa_cons (pv 6) pa_nil))) pa_nil))) pss_nil) pss_nil) pss_nil)) pss_nil)) (pss_cons (ps_if (pw_or (pt_cmpR op_eq (pe_callB cr_lenQ (by rfl) T.n_len PySem.boot_len (pa_cons (pv 4) pa_nil)) pe_int (nomark _)) (pw_or1 (pt_cmpR op_eq (pe_callB cr_lenQ (by rfl) T.n_len PySem.boot_len (pa_cons (pv 5) pa_nil)) pe_int (nomark _)))).pt (pss_cons (ps_ret (pv 0)) pss_nil) pss_nil) (pss_cons (ps_set (i := 7) sclaw_moved.nd rfl (by first | exact Or.inl rfl | exact Or.inr rfl) (pe_ix ix_list (pv 4) (pe_op op_mod (pe_callTy cr_int1 (by rfl) T.n_int (by decide +kernel) (pa_cons (pe_op op_fdiv (pv 1) pe_int) pa_nil)) (pe_callB cr_lenQ (by rfl) T.n_len PySem.boot_len (pa_cons (pv 4) pa_nil))) (fun _ _ => rfl))) (pss_cons (ps_setLc (own := [("_law_edge", 10)]) (i := 8) rfl sclaw_moved.nd rfl rfl (sw_true rfl rfl rfl (by decide +kernel)) (pi_tup (pe_ix ix_tup (pv 0) pe_int (fun _ _ => rfl))) (blkOk_by (own := [("_law_edge", 10)]) (N := Nlaw_moved) (by kernel_rfl)) (fun _ _ _ _ _ => (pg_name (i := 10) sclaw_moved.nd rfl (by first | exact Or.inl rfl | exact Or.inr rfl))) (fun _ _ _ _ _ => (pts_one (pt_cmpR (op_neD hr.units) (pv 10) (pv 7) (nomark _)))) (fun _ _ _ _ _ => (pv 10))) (pss_cons (ps_ret (pe_tup (pa_cons (pe_ix ix_tup (pv 0) pe_int (fun _ _ => rfl)) (pa_cons (pe_callTy cr_tupQ (by rfl) T.n_tuple (by decide +kernel) (pa_cons (pe_callB cr_sortedPO (by rfl) T.n_sorted boot_sorted (pa_cons (pe_op op_cat (pv 8) (pe_lst (pa_cons (pe_ix ix_list (pv 5) (pe_op op_mod (pe_callTy cr_int1 (by rfl) T.n_int (by decide +kernel) (pa_cons (pe_op op_fdiv (pv 1) pe_int) pa_nil)) (pe_callB cr_lenQ (by rfl) T.n_len PySem.boot_len (pa_cons (pv 5) pa_nil))) (fun _ _ => rfl)) pa_nil))) pa_nil)) pa_nil)) pa_nil)))) pss_nil))))))))
/-! _law_other -/
abbrev rdlaw_other (K : PySem.W.Frag) (C : Addr) (f__law_cell : PF) (f__law_web : PF) (f__law_draws : PF) (f__law_renamed : PF) (f__law_shuffle : PF) (f__law_moved : PF) : TS := (tSeq (tAsg (tCall (spF C 2 f__law_cell) [] E0 (tCons (tVar 0) (tCons (tC (.int 3)) tNil))) (gName 3)) (tSeq (tIfS (tTest (tOp rEq (tOp (rI (fun _ j => 0 < j) fun i j => .int (i % j)) (tCB rInt1 (tCons (tVar 3) tNil)) (tC (.int 6))) (tC (.int 5)))) (tSeq (tAsg (tOp (rI (fun _ j => 0 < j) fun i j => .int (i % j)) (tCB rInt1 (tCons (tOp (rI0 fun i j => .int (i + j)) (tOp (rI CDiv fun i j => .int (i / j)) (tVar 3) (tC (.int 6))) (tC (.int 3))) tNil)) (tIf (tB (tVar 2)) (tC (.int 4)) (tC (.int 5)))) (gName 6)) (tSeq (tRet (tCall (spF C 3 f__law_web) [] E0 (tCons (tVar 6) (tCons (tCall (spF C 4 f__law_draws) [] E0 (tCons (tVar 0) (tCons (tC (.int 4)) (tCons (tC (.int 10)) (tCons (tC (.int 2)) tNil))))) (tCons (tVar 2) tNil))))) tNext)) tNext) (tSeq (tAsg (tCall (spF C 2 f__law_renamed) [] E0 (tCons (tVar 1) (tCons (tCall (spF C 1 f__law_shuffle) [] E0 (tCons (tCall (spF C 4 f__law_draws) [] E0 (tCons (tVar 0) (tCons (tC (.int 2)) (tCons (tOp (rIxT K) (tVar 1) (tC (.int 0))) (tCons (tC (.int 60)) tNil))))) tNil)) tNil))) (gName 4)) (tSeq (tIfS (tTest (tOp (rI0 fun i j => .bl (decide (j < i))) (tOp (rI (fun _ j => 0 < j) fun i j => .int (i % j)) (tCB rInt1 (tCons (tVar 3) tNil)) (tC (.int 6))) (tC (.int 2)))) (tSeq (tRet (tCall (spF C 3 f__law_moved) [] E0 (tCons (tVar 4) (tCons (tOp (rI CDiv fun i j => .int (i / j)) (tVar 3) (tC (.int 6))) (tCons (tVar 2) tNil))))) tNext) tNext) (tSeq (tFor (iList K (tSl (rSlL K) (tCall (spF C 4 f__law_draws) [] E0 (tCons (tVar 0) (tCons (tC (.int 5)) (tCons (tC (.int 2)) (tCons (tC (.int 144)) tNil))))) tNoPart (tPart (tOp (rI (fun _ j => 0 < j) fun i j => .int (i % j)) (tCB rInt1 (tCons (tVar 3) tNil)) (tC (.int 6)))))) (gName 5) (tSeq (tIfS (tTest (tOp (rI0 fun i j => .bl (decide (j < i))) (tOp (rIxT K) (tVar 1) (tC (.int 0))) (tC (.int 0)))) (tSeq (tAsg (tOp (rI (fun _ j => 0 < j) fun i j => .int (i % j)) (tCB rInt1 (tCons (tVar 5) tNil)) (tOp (rIxT K) (tVar 1) (tC (.int 0)))) (gName 7)) (tSeq (tAsg (tOp (rI (fun _ j => 0 < j) fun i j => .int (i % j)) (tCB rInt1 (tCons (tOp (rI CDiv fun i j => .int (i / j)) (tVar 5) (tC (.int 12))) tNil)) (tOp (rIxT K) (tVar 1) (tC (.int 0)))) (gName 8)) (tSeq (tAsg (tTup (tCons (tCB rMin2 (tCons (tVar 7) (tCons (tVar 8) tNil))) (tCons (tCB rMax2 (tCons (tVar 7) (tCons (tVar 8) tNil))) tNil))) (gName 9)) (tSeq (tIfS (tTest (tOp (rInDT K false) (tVar 9) (tOp (rIxT K) (tVar 4) (tC (.int 1))))) (tSeq (tAsg (tTup (tCons (tOp (rIxT K) (tVar 4) (tC (.int 0))) (tCons (tCB (rTupQ K) (tCons (tLc (iTup K (tOp (rIxT K) (tVar 4) (tC (.int 1)))) (gName 10) (tTest (tOp (rNeD K) (tVar 10) (tVar 9))) (tVar 10) [10]) tNil)) tNil))) (gName 4)) tNext) (tSeq (tIfS (tOr (tTest (tOp rNe (tVar 7) (tVar 8))) (tB (tVar 2))) (tSeq (tAsg (tTup (tCons (tOp (rIxT K) (tVar 4) (tC (.int 0))) (tCons (tCB (rTupQ K) (tCons (tCB (rSortedPO K) (tCons (tOp rCat (tCB (rListQ K) (tCons (tOp (rIxT K) (tVar 4) (tC (.int 1))) tNil)) (tLst (tCons (tVar 9) tNil))) tNil)) tNil)) tNil))) (gName 4)) tNext) tNext) tNext)) tNext)))) tNext) tNext)) (tSeq (tRet (tVar 4)) tNext))))))
def inlaw_other (K : PySem.W.Frag) (C : Addr) (f__law_cell : PF) (f__law_web : PF) (f__law_draws : PF) (f__law_renamed : PF) (f__law_shuffle : PF) (f__law_moved : PF) : RS C E0 (rdlaw_other K C f__law_cell f__law_web f__law_draws f__law_renamed f__law_shuffle f__law_moved) := inferInstance
def Flaw_other (K : PySem.W.Frag) (C : Addr) (f__law_cell : PF) (f__law_web : PF) (f__law_draws : PF) (f__law_renamed : PF) (f__law_shuffle : PF) (f__law_moved : PF) : PF := fun ds => outF0 ((inlaw_other K C f__law_cell f__law_web f__law_draws f__law_renamed f__law_shuffle f__law_moved).run (startA 11 ds))
abbrev Nlaw_other : List Str := ["_law_script", "_law_a", "_law_looped", "_law_way", "_law_b", "_law_draw", "_law_size", "_law_u", "_law_v", "_law_pair", "_law_edge"]
theorem sclaw_other : FnScope Nlaw_other ["_law_script", "_law_a", "_law_looped"] (defScope (K16.top 67)) := ⟨rfl, rfl, rfl, by decide +kernel, rfl, by decide +kernel, by decide +kernel⟩
theorem oklaw_other {f__law_cell : PF} {f__law_web : PF} {f__law_draws : PF} {f__law_renamed : PF} {f__law_shuffle : PF} {f__law_moved : PF} {f : PF} (T : Tx mg) (D : DefAt K mg (K16.top 67) "_law_other" []) (c__law_cell : Cal P w K mg base 1 "_law_cell" [] (spF C 2 f__law_cell)) (c__law_web : Cal P w K mg base 1 "_law_web" [] (spF C 3 f__law_web)) (c__law_draws : Cal P w K mg base 2 "_law_draws" [] (spF C 4 f__law_draws)) (c__law_renamed : Cal P w K mg base 1 "_law_renamed" [] (spF C 2 f__law_renamed)) (c__law_shuffle : Cal P w K mg base 1 "_law_shuffle" [] (spF C 1 f__law_shuffle)) (c__law_moved : Cal P w K mg base 1 "_law_moved" [] (spF C 3 f__law_moved)) (hf : ∀ ds, ds.length = 3 → Ref (f ds) (Flaw_other K C f__law_cell f__law_web f__law_draws f__law_renamed f__law_shuffle f__law_moved ds)) : Cal P w K mg base 3 "_law_other" [] (spF C 3 f) := by
  refine cal_of0 (ps := ["_law_script", "_law_a", "_law_looped"]) D sclaw_other rfl (fun _ _ _ _ _ _ us hl => match us, hl with | [_, _, _], _ => rfl) (rdlaw_other K C f__law_cell f__law_web f__law_draws f__law_renamed f__law_shuffle f__law_moved) (inlaw_other K C f__law_cell f__law_web f__law_draws f__law_renamed f__law_shuffle f__law_moved) hf fun f cdv A outer s H E hr => ?_
  exact (pss_cons (ps_set (i := 3) sclaw_other.nd rfl (by first | exact Or.inl rfl | exact Or.inr rfl) (pe_cal c__law_cell (hr.mono (by decide)) passL (pa_cons (pv 0) (pa_cons pe_int pa_nil)))) (pss_cons (ps_if (pt_cmpR op_eq (pe_op op_mod (pe_callTy cr_int1 (by rfl) T.n_int (by decide +kernel) (pa_cons (pv 3) pa_nil)) pe_int) pe_int (nomark _)) (pss_cons (ps_set (i := 6) sclaw_other.nd rfl (by first | exact Or.inl rfl | exact Or.inr rfl) (pe_op op_mod (pe_callTy cr_int1 (by rfl) T.n_int (by decide +kernel) (pa_cons (pe_op op_add (pe_op op_fdiv (pv 3) pe_int) pe_int) pa_nil)) (pe_ifExp (pt_val (pv 2)) pe_int pe_int))) (pss_cons (ps_ret (pe_cal c__law_web (hr.mono (by decide)) passL (pa_cons (pv 6) (pa_cons (pe_cal c__law_draws (hr.mono (by decide)) passL (pa_cons (pv 0) (pa_cons pe_int (pa_cons pe_int (pa_cons pe_int pa_nil))))) (pa_cons (pv 2) pa_nil))))) pss_nil)) pss_nil) (pss_cons (ps_set (i := 4) sclaw_other.nd rfl (by first | exact Or.inl rfl | exact Or.inr rfl) (pe_cal c__law_renamed (hr.mono (by decide)) passL (pa_cons (pv 1) (pa_cons (pe_cal c__law_shuffle (hr.mono (by decide)) passL (pa_cons (pe_cal c__law_draws (hr.mono (by decide)) passL (pa_cons (pv 0) (pa_cons pe_int (pa_cons (pe_ix ix_tup (pv 1) pe_int (fun _ _ => rfl)) (pa_cons pe_int pa_nil))))) pa_nil)) pa_nil)))) (pss_cons (ps_if (pt_cmpR op_gt (pe_op op_mod (pe_callTy cr_int1 (by rfl) T.n_int (by decide +kernel) (pa_cons (pv 3) pa_nil)) pe_int) pe_int (nomark _)) (pss_cons (ps_ret (pe_cal c__law_moved (hr.mono (by decide)) passL (pa_cons (pv 4) (pa_cons (pe_op op_fdiv (pv 3) pe_int) (pa_cons (pv 2) pa_nil))))) pss_nil) pss_nil) (pss_cons (ps_for (passes_of rfl) rfl (pi_list (pe_slice sl_list (pe_cal c__law_draws (hr.mono (by decide)) passL (pa_cons (pv 0) (pa_cons pe_int (pa_cons pe_int (pa_cons pe_int pa_nil))))) po_none (po_some (pe_op op_mod (pe_callTy cr_int1 (by rfl) T.n_int (by decide +kernel) (pa_cons (pv 3) pa_nil)) pe_int)))) (pg_name (i := 5) sclaw_other.nd rfl (by first | exact Or.inl rfl | exact Or.inr rfl)) (pss_cons (ps_if (pt_cmpR op_gt (pe_ix ix_tup (pv 1) pe_int (fun _ _ => rfl)) pe_int (nomark _)) (pss_cons (ps_set (i := 7) sclaw_other.nd rfl (by first | exact Or.inl rfl | exact Or.inr rfl) (pe_op op_mod (pe_callTy cr_int1 (by rfl) T.n_int (by decide +kernel) (pa_cons (pv 5) pa_nil)) (pe_ix ix_tup (pv 1) pe_int (fun _ _ => rfl)))) (pss_cons (ps_set (i := 8) sclaw_other.nd rfl (by first | exact Or.inl rfl | exact Or.inr rfl) (pe_op op_mod (pe_callTy cr_int1 (by rfl) T.n_int (by decide +kernel) (pa_cons (pe_op op_fdiv (pv 5) pe_int) pa_nil)) (pe_ix ix_tup (pv 1) pe_int (fun _ _ => rfl)))) (pss_cons (ps_set (i := 9) sclaw_other.nd rfl (by first | exact Or.inl rfl | exact Or.inr rfl) (pe_tup (pa_cons (pe_callB (cr_min2 (by rfl)) (by rfl) T.n_min boot_min (pa_cons (pv 7) (pa_cons (pv 8) pa_nil))) (pa_cons (pe_callB (cr_max2 (by rfl)) (by rfl) T.n_max boot_max (pa_cons (pv 7) (pa_cons (pv 8) pa_nil))) pa_nil)))) (pss_cons (ps_if (pt_cmpR (op_inDT (hu65 hr)) (pv 9) (pe_ix ix_tup (pv 4) pe_int (fun _ _ => rfl)) (by rfl)) (pss_cons (ps_set (i := 4) sclaw_other.nd rfl (by first | exact Or.inl rfl | exact Or.inr rfl) (pe_tup (pa_cons (pe_ix ix_tup (pv 4) pe_int (fun _ _ => rfl)) (pa_cons (pe_callTy cr_tupQ (by rfl) T.n_tuple (by decide +kernel) (pa_cons (pe_lc (own := [("_law_edge", 10)]) rfl sclaw_other.nd (pi_tup (pe_ix ix_tup (pv 4) pe_int (fun _ _ => rfl))) (blkOk_by (own := [("_law_edge", 10)]) (N := Nlaw_other) (by kernel_rfl)) (fun _ _ _ _ _ => (pg_name (i := 10) sclaw_other.nd rfl (by first | exact Or.inl rfl | exact Or.inr rfl))) (fun _ _ _ _ _ => (pts_one (pt_cmpR (op_neD hr.units) (pv 10) (pv 9) (nomark _)))) (fun _ _ _ _ _ => (pv 10))) pa_nil)) pa_nil)))) pss_nil) (pss_cons (ps_if (pw_or (pt_cmpR op_ne (pv 7) (pv 8) (nomark _)) (pw_or1 (pt_val (pv 2)))).pt (pss_cons (ps_set (i := 4) sclaw_other.nd rfl (by first | exact Or.inl rfl | exact Or.inr rfl) (pe_tup (pa_cons (pe_ix ix_tup (pv 4) pe_int (fun _ _ => rfl)) (pa_cons (pe_callTy cr_tupQ (by rfl) T.n_tuple (by decide +kernel) (pa_cons (pe_callB cr_sortedPO (by rfl) T.n_sorted boot_sorted (pa_cons (pe_op op_cat (pe_callTy cr_listQ (by rfl) T.n_list (by decide +kernel) (pa_cons (pe_ix ix_tup (pv 4) pe_int (fun _ _ => rfl)) pa_nil)) (pe_lst (pa_cons (pv 9) pa_nil))) pa_nil)) pa_nil)) pa_nil)))) pss_nil) pss_nil) pss_nil)) pss_nil)))) pss_nil) pss_nil)) (pss_cons (ps_ret (pv 4)) pss_nil))))))
/-! law -/
abbrev rdlaw (K : PySem.W.Frag) (C : Addr) (f__law_cell : PF) (f__law_draws : PF) (f__law_web : PF) (f__law_other : PF) (f__law_has_loop : PF) (f__law_catalogue : PF) (f__law_due : PF) (f__law_same : PF) (f__law_listed : PF) (f__law_telling : PF) (f_count_homs : PF) (f__law_counts : PF) (f__law_profile : PF) (f__law_few_told : PF) (f__law_profile_refused : PF) (f__law_telling_refused : PF) (f__law_widest : PF) : TS := (tSeq (tAsg (tCall (spF C 2 f__law_cell) [] E0 (tCons (tVar 0) (tCons (tC (.int 0)) tNil))) (gName 1)) (tSeq (tAsg (tOp rEq (tOp (rI (fun _ j => 0 < j) fun i j => .int (i % j)) (tCB rInt1 (tCons (tVar 1) tNil)) (tC (.int 2))) (tC (.int 0))) (gName 2)) (tSeq (tAsg (tLst (tCons (tC (.int 3)) (tCons (tC (.int 4)) (tCons (tC (.int 2)) (tCons (tC (.int 4)) (tCons (tC (.int 1)) (tCons (tC (.int 0)) tNil))))))) (gName 3)) (tSeq (tIfS (tB (tVar 2)) (tSeq (tAsg (tLst (tCons (tC (.int 3)) (tCons (tC (.int 2)) (tCons (tC (.int 3)) (tCons (tC (.int 3)) (tCons (tC (.int 1)) (tCons (tC (.int 0)) tNil))))))) (gName 3)) tNext) tNext) (tSeq (tAsg (tOp (rIxL K) (tLst (tCons (tC (.int 2)) (tCons (tC (.int 1)) (tCons (tC (.int 3)) (tCons (tC (.int 2)) (tCons (tC (.int 4)) tNil)))))) (tOp (rI (fun _ j => 0 < j) fun i j => .int (i % j)) (tCB rInt1 (tCons (tOp (rI CDiv fun i j => .int (i / j)) (tVar 1) (tC (.int 12))) tNil)) (tC (.int 5)))) (gName 4)) (tSeq (tAsg (tLc (iList K (tCall (spF C 4 f__law_draws) [] E0 (tCons (tVar 0) (tCons (tC (.int 1)) (tCons (tC (.int 10)) (tCons (tC (.int 4)) tNil)))))) (gName 14) tYes (tIf (tTest (tOp (rI0 fun i j => .bl (decide (i < j))) (tVar 14) (tVar 4))) (tC (.int 1)) (tC (.int 0))) [14]) (gName 5)) (tSeq (tAsg (tCall (spF C 3 f__law_web) [] E0 (tCons (tOp (rIxL K) (tVar 3) (tOp (rI (fun _ j => 0 < j) fun i j => .int (i % j)) (tCB rInt1 (tCons (tOp (rI CDiv fun i j => .int (i / j)) (tVar 1) (tC (.int 2))) tNil)) (tC (.int 6)))) (tCons (tVar 5) (tCons (tVar 2) tNil)))) (gName 6)) (tSeq (tAsg (tCall (spF C 3 f__law_other) [] E0 (tCons (tVar 0) (tCons (tVar 6) (tCons (tVar 2) tNil)))) (gName 7)) (tSeq (tAsg (tCB rMax2 (tCons (tOp (rIxT K) (tVar 6) (tC (.int 0))) (tCons (tOp (rIxT K) (tVar 7) (tC (.int 0))) tNil))) (gName 8)) (tSeq (tAsg (tOrV (tCall (spF C 1 f__law_has_loop) [] E0 (tCons (tVar 6) tNil)) (tCall (spF C 1 f__law_has_loop) [] E0 (tCons (tVar 7) tNil))) (gName 9)) (tSeq (tAsg (tCall (spF C 2 f__law_catalogue) [] E0 (tCons (tVar 8) (tCons (tVar 9) tNil))) (gName 10)) (tSeq (tAsg (tCall (spF C 3 f__law_due) [] E0 (tCons (tVar 6) (tCons (tVar 7) (tCons (tVar 10) tNil)))) (gName 11)) (tSeq (tIfS (tOr (tNot (tB (tCall (spF C 2 f__law_same) [] E0 (tCons (tTup (tCons (tC (.str "told")) (tCons (tVar 11) tNil))) (tCons (tCall (spF C 2 f__law_telling) [] E0 (tCons (tVar 6) (tCons (tVar 7) tNil))) tNil))))) (tNot (tB (tCall (spF C 2 f__law_same) [] E0 (tCons (tVar 10) (tCons (tCall (spF C 2 f__law_listed) [] E0 (tCons (tVar 8) (tCons (tVar 9) tNil))) tNil)))))) (tSeq (tRet (tC (.bl false))) tNext) tNext) (tSeq (tIfS (tTest (tOp rNotN (tVar 11) (tC .non))) (tSeq (tIfS (tNot (tB (tCall (spF C 2 f__law_same) [] E0 (tCons (tLst (tCons (tOp (rIxT K) (tVar 11) (tC (.int 1))) (tCons (tOp (rIxT K) (tVar 11) (tC (.int 2))) tNil))) (tCons (tLst (tCons (tCall (spF C 2 f_count_homs) [] E0 (tCons (tOp (rIxT K) (tVar 11) (tC (.int 0))) (tCons (tVar 6) tNil))) (tCons (tCall (spF C 2 f_count_homs) [] E0 (tCons (tOp (rIxT K) (tVar 11) (tC (.int 0))) (tCons (tVar 7) tNil))) tNil))) tNil))))) (tSeq (tRet (tC (.bl false))) tNext) tNext) (tSeq (tAsg (tTup (tCons (tOp (rIxT K) (tVar 11) (tC (.int 0))) (tCons (tOp (rIxT K) (tVar 11) (tC (.int 2))) (tCons (tOp (rIxT K) (tVar 11) (tC (.int 1))) tNil)))) (gName 11)) tNext)) tNext) (tSeq (tIfS (tNot (tB (tCall (spF C 2 f__law_same) [] E0 (tCons (tTup (tCons (tC (.str "told")) (tCons (tVar 11) tNil))) (tCons (tCall (spF C 2 f__law_telling) [] E0 (tCons (tVar 7) (tCons (tVar 6) tNil))) tNil))))) (tSeq (tRet (tC (.bl false))) tNext) tNext) (tSeq (tIfS (tTest (tOp (rI0 fun i j => .bl (decide (i < j))) (tVar 8) (tC (.int 4)))) (tSeq (tAsg (tCall (spF C 2 f__law_counts) [] E0 (tCons (tVar 6) (tCons (tVar 10) tNil))) (gName 12)) (tSeq (tAsg (tCall (spF C 2 f__law_counts) [] E0 (tCons (tVar 7) (tCons (tVar 10) tNil))) (gName 13)) (tSeq (tIfS (tTest (tOp rNe (tOp (rEqD K) (tVar 12) (tVar 13)) (tOp rIsN (tVar 11) (tC .non)))) (tSeq (tRet (tC (.bl false))) tNext) tNext) (tSeq (tIfS (tNot (tB (tCall (spF C 2 f__law_same) [] E0 (tCons (tTup (tCons (tC (.str "told")) (tCons (tVar 12) tNil))) (tCons (tCall (spF C 4 f__law_profile) [] E0 (tCons (tVar 6) (tCons (tVar 8) (tCons (tVar 9) (tCons (tC (.bl true)) tNil))))) tNil))))) (tSeq (tRet (tC (.bl false))) tNext) tNext) (tSeq (tIfS (tNot (tB (tCall (spF C 2 f__law_same) [] E0 (tCons (tTup (tCons (tC (.str "told")) (tCons (tVar 13) tNil))) (tCons (tCall (spF C 4 f__law_profile) [] E0 (tCons (tVar 7) (tCons (tVar 8) (tCons (tVar 9) (tCons (tC (.bl false)) tNil))))) tNil))))) (tSeq (tRet (tC (.bl false))) tNext) tNext) tNext))))) tNext) (tSeq (tIfS (tNot (tB (tCall (spF C 3 f__law_few_told) [] E0 (tCons (tVar 6) (tCons (tOp (rI (fun _ j => 0 < j) fun i j => .int (i % j)) (tCB rInt1 (tCons (tOp (rI0 fun i j => .int (i + j)) (tCall (spF C 2 f__law_cell) [] E0 (tCons (tVar 0) (tCons (tC (.int 6)) tNil))) (tC (.int 2))) tNil)) (tC (.int 3))) (tCons (tOp rEq (tOp (rI (fun _ j => 0 < j) fun i j => .int (i % j)) (tCB rInt1 (tCons (tOp (rI CDiv fun i j => .int (i / j)) (tCall (spF C 2 f__law_cell) [] E0 (tCons (tVar 0) (tCons (tC (.int 6)) tNil))) (tC (.int 3))) tNil)) (tC (.int 2))) (tC (.int 1))) tNil)))))) (tSeq (tRet (tC (.bl false))) tNext) tNext) (tSeq (tIfS (tOr (tNot (tB (tCall (spF C 1 f__law_telling_refused) [] E0 (tCons (tCall (spF C 2 f__law_cell) [] E0 (tCons (tVar 0) (tCons (tC (.int 7)) tNil))) tNil)))) (tNot (tB (tCall (spF C 1 f__law_profile_refused) [] E0 (tCons (tCall (spF C 2 f__law_cell) [] E0 (tCons (tVar 0) (tCons (tC (.int 7)) tNil))) tNil))))) (tSeq (tRet (tC (.bl false))) tNext) tNext) (tSeq (tIfS (tTest (tOp rEq (tOp (rI (fun _ j => 0 < j) fun i j => .int (i % j)) (tCB rInt1 (tCons (tCall (spF C 2 f__law_cell) [] E0 (tCons (tVar 0) (tCons (tC (.int 8)) tNil))) tNil)) (tC (.int 16))) (tC (.int 1)))) (tSeq (tRet (tCall (spF C 1 f__law_widest) [] E0 (tCons (tOp (rI CDiv fun i j => .int (i / j)) (tCall (spF C 2 f__law_cell) [] E0 (tCons (tVar 0) (tCons (tC (.int 8)) tNil))) (tC (.int 16))) tNil))) tNext) tNext) (tSeq (tRet (tC (.bl true))) tNext))))))))))))))))))))
def inlaw (K : PySem.W.Frag) (C : Addr) (f__law_cell : PF) (f__law_draws : PF) (f__law_web : PF) (f__law_other : PF) (f__law_has_loop : PF) (f__law_catalogue : PF) (f__law_due : PF) (f__law_same : PF) (f__law_listed : PF) (f__law_telling : PF) (f_count_homs : PF) (f__law_counts : PF) (f__law_profile : PF) (f__law_few_told : PF) (f__law_profile_refused : PF) (f__law_telling_refused : PF) (f__law_widest : PF) : RS C E0 (rdlaw K C f__law_cell f__law_draws f__law_web f__law_other f__law_has_loop f__law_catalogue f__law_due f__law_same f__law_listed f__law_telling f_count_homs f__law_counts f__law_profile f__law_few_told f__law_profile_refused f__law_telling_refused f__law_widest) := inferInstance
def Flaw (K : PySem.W.Frag) (C : Addr) (f__law_cell : PF) (f__law_draws : PF) (f__law_web : PF) (f__law_other : PF) (f__law_has_loop : PF) (f__law_catalogue : PF) (f__law_due : PF) (f__law_same : PF) (f__law_listed : PF) (f__law_telling : PF) (f_count_homs : PF) (f__law_counts : PF) (f__law_profile : PF) (f__law_few_told : PF) (f__law_profile_refused : PF) (f__law_telling_refused : PF) (f__law_widest : PF) : PF := fun ds => outF0 ((inlaw K C f__law_cell f__law_draws f__law_web f__law_other f__law_has_loop f__law_catalogue f__law_due f__law_same f__law_listed f__law_telling f_count_homs f__law_counts f__law_profile f__law_few_told f__law_profile_refused f__law_telling_refused f__law_widest).run (startA 15 ds))
abbrev Nlaw : List Str := ["_law_script", "_law_shape", "_law_looped", "_law_sizes", "_law_share", "_law_bits", "_law_a", "_law_b", "_law_limit", "_law_with_loops", "_law_webs", "_law_due_here", "_law_first", "_law_second", "_law_digit"]
theorem sclaw : FnScope Nlaw ["_law_script"] (defScope (K16.top 68)) := ⟨rfl, rfl, rfl, by decide +kernel, rfl, by decide +kernel, by decide +kernel⟩
end
end DL
end
section
set_option Elab.async false
set_option linter.all false
set_option warn.classDefReducibility false
set_option synthInstance.maxSize 1000000
set_option synthInstance.maxHeartbeats 4000000
set_option maxRecDepth 100000
set_option maxHeartbeats 4000000
/-! DF: law's def at its function. Printed by gendf.py. -/
namespace DL
open PySem L2 GX PyProof.Rows TLX
section
variable {P : Program} {w : World} {K : PySem.W.Frag} {mg : Str → Option Value} {base : Heap} {C : Addr} {st : Stmt} {x : Str} {N ps : List Str} {k n : Nat} {f : PF} {fl : Addr} {fd : FuncData}
theorem fn_of0 (F : FunD K x x (defArgs st) (defBody st) (defScope st) [] [] fl fd) (S : FnScope N ps (defScope st)) (hn : ps.length = n)
    (ts : TS) (inst : RS C E0 ts) (hf : ∀ ds, ds.length = n → Ref (f ds) (outF0 (inst.run (startA N.length ds))))
    (hbody : ∀ (f : Addr) (cdv : Value) (A : Around) (outer : List Env) (s : Shared) (H : Hp) (E : XK), Room k (A.deeper (envOfC x (defScope st) s.heap.objs.size f cdv)) → PSs (cxOf (L2.CX P w) P w K mg base N x (defScope st) f cdv A outer s H E) (defBody st) ts) :
    FnOk P w K mg base (L2.CX P w) (k + 1) fl fd ps (spF C n f) :=
  F.ok S (fun vs H Q E h => by rw [hn]; exact spF_len vs H Q E h) fun cdv A outer s H vs Q E hr h => ⟨ts, hbody fl cdv A outer s H E hr, body_run0 h hf⟩
end
section
variable {P : Program} {w : World} {K : PySem.W.Frag} {mg : Str → Option Value} {base : Heap} {C fI : Addr}
theorem fnlaw {fl : Addr} {fd : FuncData} {f__law_cell : PF} {f__law_draws : PF} {f__law_web : PF} {f__law_other : PF} {f__law_has_loop : PF} {f__law_catalogue : PF} {f__law_due : PF} {f__law_same : PF} {f__law_listed : PF} {f__law_telling : PF} {f_count_homs : PF} {f__law_counts : PF} {f__law_profile : PF} {f__law_few_told : PF} {f__law_profile_refused : PF} {f__law_telling_refused : PF} {f__law_widest : PF} {f : PF} (T : Tx mg) (FD : FunD K "law" "law" (defArgs (K16.top 68)) (defBody (K16.top 68)) (defScope (K16.top 68)) [] [] fl fd) (c__law_cell : Cal P w K mg base 1 "_law_cell" [] (spF C 2 f__law_cell)) (c__law_draws : Cal P w K mg base 2 "_law_draws" [] (spF C 4 f__law_draws)) (c__law_web : Cal P w K mg base 1 "_law_web" [] (spF C 3 f__law_web)) (c__law_other : Cal P w K mg base 3 "_law_other" [] (spF C 3 f__law_other)) (c__law_has_loop : Cal P w K mg base 1 "_law_has_loop" [] (spF C 1 f__law_has_loop)) (c__law_catalogue : Cal P w K mg base 3 "_law_catalogue" [] (spF C 2 f__law_catalogue)) (c__law_due : Cal P w K mg base 3 "_law_due" [] (spF C 3 f__law_due)) (c__law_same : Cal P w K mg base 40 "_law_same" [] (spF C 2 f__law_same)) (c__law_listed : Cal P w K mg base 11 "_law_listed" [] (spF C 2 f__law_listed)) (c__law_telling : Cal P w K mg base 33 "_law_telling" [] (spF C 2 f__law_telling)) (c_count_homs : Cal P w K mg base 6 "count_homs" [] (spF C 2 f_count_homs)) (c__law_counts : Cal P w K mg base 2 "_law_counts" [] (spF C 2 f__law_counts)) (c__law_profile : Cal P w K mg base 33 "_law_profile" [] (spF C 4 f__law_profile)) (c__law_few_told : Cal P w K mg base 41 "_law_few_told" [] (spF C 3 f__law_few_told)) (c__law_profile_refused : Cal P w K mg base 41 "_law_profile_refused" [] (spF C 1 f__law_profile_refused)) (c__law_telling_refused : Cal P w K mg base 41 "_law_telling_refused" [] (spF C 1 f__law_telling_refused)) (c__law_widest : Cal P w K mg base 41 "_law_widest" [] (spF C 1 f__law_widest)) (hf : ∀ ds, ds.length = 1 → Ref (f ds) (Flaw K C f__law_cell f__law_draws f__law_web f__law_other f__law_has_loop f__law_catalogue f__law_due f__law_same f__law_listed f__law_telling f_count_homs f__law_counts f__law_profile f__law_few_told f__law_profile_refused f__law_telling_refused f__law_widest ds)) : FnOk P w K mg base (L2.CX P w) 42 fl fd ["_law_script"] (spF C 1 f) := by
  refine fn_of0 (ps := ["_law_script"]) FD sclaw rfl (rdlaw K C f__law_cell f__law_draws f__law_web f__law_other f__law_has_loop f__law_catalogue f__law_due f__law_same f__law_listed f__law_telling f_count_homs f__law_counts f__law_profile f__law_few_told f__law_profile_refused f__law_telling_refused f__law_widest) (inlaw K C f__law_cell f__law_draws f__law_web f__law_other f__law_has_loop f__law_catalogue f__law_due f__law_same f__law_listed f__law_telling f_count_homs f__law_counts f__law_profile f__law_few_told f__law_profile_refused f__law_telling_refused f__law_widest) hf fun f cdv A outer s H E hr => ?_
  exact (pss_cons (ps_set (i := 1) sclaw.nd rfl (by first | exact Or.inl rfl | exact Or.inr rfl) (pe_cal c__law_cell (hr.mono (by decide)) passL (pa_cons (pv 0) (pa_cons pe_int pa_nil)))) (pss_cons (ps_set (i := 2) sclaw.nd rfl (by first | exact Or.inl rfl | exact Or.inr rfl) (pe_cmpR op_eq (pe_op op_mod (pe_callTy cr_int1 (by rfl) T.n_int (by decide +kernel) (pa_cons (pv 1) pa_nil)) pe_int) pe_int (nomark _))) (pss_cons (ps_set (i := 3) sclaw.nd rfl (by first | exact Or.inl rfl | exact Or.inr rfl) (pe_lst (pa_cons pe_int (pa_cons pe_int (pa_cons pe_int (pa_cons pe_int (pa_cons pe_int (pa_cons pe_int pa_nil)))))))) (pss_cons (ps_if (pt_val (pv 2)) (pss_cons (ps_set (i := 3) sclaw.nd rfl (by first | exact Or.inl rfl | exact Or.inr rfl) (pe_lst (pa_cons pe_int (pa_cons pe_int (pa_cons pe_int (pa_cons pe_int (pa_cons pe_int (pa_cons pe_int pa_nil)))))))) pss_nil) pss_nil) (pss_cons (ps_set (i := 4) sclaw.nd rfl (by first | exact Or.inl rfl | exact Or.inr rfl) (pe_ix ix_list (pe_lst (pa_cons pe_int (pa_cons pe_int (pa_cons pe_int (pa_cons pe_int (pa_cons pe_int pa_nil)))))) (pe_op op_mod (pe_callTy cr_int1 (by rfl) T.n_int (by decide +kernel) (pa_cons (pe_op op_fdiv (pv 1) pe_int) pa_nil)) pe_int) (fun _ _ => rfl))) (pss_cons (ps_setLc (own := [("_law_digit", 14)]) (i := 5) rfl sclaw.nd rfl rfl (sw_true rfl rfl rfl (by decide +kernel)) (pi_list (pe_cal c__law_draws (hr.mono (by decide)) passL (pa_cons (pv 0) (pa_cons pe_int (pa_cons pe_int (pa_cons pe_int pa_nil)))))) (blkOk_by (own := [("_law_digit", 14)]) (N := Nlaw) (by kernel_rfl)) (fun _ _ _ _ _ => (pg_name (i := 14) sclaw.nd rfl (by first | exact Or.inl rfl | exact Or.inr rfl))) (fun _ _ _ _ _ => pts_nil) (fun _ _ _ _ _ => (pe_ifExp (pt_cmpR op_lt (pv 14) (pv 4) (nomark _)) pe_int pe_int))) (pss_cons (ps_set (i := 6) sclaw.nd rfl (by first | exact Or.inl rfl | exact Or.inr rfl) (pe_cal c__law_web (hr.mono (by decide)) passL (pa_cons (pe_ix ix_list (pv 3) (pe_op op_mod (pe_callTy cr_int1 (by rfl) T.n_int (by decide +kernel) (pa_cons (pe_op op_fdiv (pv 1) pe_int) pa_nil)) pe_int) (fun _ _ => rfl)) (pa_cons (pv 5) (pa_cons (pv 2) pa_nil))))) (pss_cons (ps_set (i := 7) sclaw.nd rfl (by first | exact Or.inl rfl | exact Or.inr rfl) (pe_cal c__law_other (hr.mono (by decide)) passL (pa_cons (pv 0) (pa_cons (pv 6) (pa_cons (pv 2) pa_nil))))) (pss_cons (ps_set (i := 8) sclaw.nd rfl (by first | exact Or.inl rfl | exact Or.inr rfl) (pe_callB (cr_max2 (by rfl)) (by rfl) T.n_max boot_max (pa_cons (pe_ix ix_tup (pv 6) pe_int (fun _ _ => rfl)) (pa_cons (pe_ix ix_tup (pv 7) pe_int (fun _ _ => rfl)) pa_nil)))) (pss_cons (ps_set (i := 9) sclaw.nd rfl (by first | exact Or.inl rfl | exact Or.inr rfl) (pe_or (pe_cal c__law_has_loop (hr.mono (by decide)) passL (pa_cons (pv 6) pa_nil)) (pe_one (pe_cal c__law_has_loop (hr.mono (by decide)) passL (pa_cons (pv 7) pa_nil))))) (pss_cons (ps_set (i := 10) sclaw.nd rfl (by first | exact Or.inl rfl | exact Or.inr rfl) (pe_cal c__law_catalogue (hr.mono (by decide)) passL (pa_cons (pv 8) (pa_cons (pv 9) pa_nil)))) (pss_cons (ps_set (i := 11) sclaw.nd rfl (by first | exact Or.inl rfl | exact Or.inr rfl) (pe_cal c__law_due (hr.mono (by decide)) passL (pa_cons (pv 6) (pa_cons (pv 7) (pa_cons (pv 10) pa_nil))))) (pss_cons (ps_if (pw_or (pt_not (pt_val (pe_cal c__law_same (hr.mono (by decide)) passL (pa_cons (pe_tup (pa_cons pe_str (pa_cons (pv 11) pa_nil))) (pa_cons (pe_cal c__law_telling (hr.mono (by decide)) passL (pa_cons (pv 6) (pa_cons (pv 7) pa_nil))) pa_nil))))) (pw_or1 (pt_not (pt_val (pe_cal c__law_same (hr.mono (by decide)) passL (pa_cons (pv 10) (pa_cons (pe_cal c__law_listed (hr.mono (by decide)) passL (pa_cons (pv 8) (pa_cons (pv 9) pa_nil))) pa_nil))))))).pt (pss_cons (ps_ret pe_bl) pss_nil) pss_nil) (pss_cons (ps_if (pt_cmpR op_notN2 (pv 11) pe_non (nomark _)) (pss_cons (ps_if (pt_not (pt_val (pe_cal c__law_same (hr.mono (by decide)) passL (pa_cons (pe_lst (pa_cons (pe_ix ix_tup (pv 11) pe_int (fun _ _ => rfl)) (pa_cons (pe_ix ix_tup (pv 11) pe_int (fun _ _ => rfl)) pa_nil))) (pa_cons (pe_lst (pa_cons (pe_cal c_count_homs (hr.mono (by decide)) passL (pa_cons (pe_ix ix_tup (pv 11) pe_int (fun _ _ => rfl)) (pa_cons (pv 6) pa_nil))) (pa_cons (pe_cal c_count_homs (hr.mono (by decide)) passL (pa_cons (pe_ix ix_tup (pv 11) pe_int (fun _ _ => rfl)) (pa_cons (pv 7) pa_nil))) pa_nil))) pa_nil))))) (pss_cons (ps_ret pe_bl) pss_nil) pss_nil) (pss_cons (ps_set (i := 11) sclaw.nd rfl (by first | exact Or.inl rfl | exact Or.inr rfl) (pe_tup (pa_cons (pe_ix ix_tup (pv 11) pe_int (fun _ _ => rfl)) (pa_cons (pe_ix ix_tup (pv 11) pe_int (fun _ _ => rfl)) (pa_cons (pe_ix ix_tup (pv 11) pe_int (fun _ _ => rfl)) pa_nil))))) pss_nil)) pss_nil) (pss_cons (ps_if (pt_not (pt_val (pe_cal c__law_same (hr.mono (by decide)) passL (pa_cons (pe_tup (pa_cons pe_str (pa_cons (pv 11) pa_nil))) (pa_cons (pe_cal c__law_telling (hr.mono (by decide)) passL (pa_cons (pv 7) (pa_cons (pv 6) pa_nil))) pa_nil))))) (pss_cons (ps_ret pe_bl) pss_nil) pss_nil) (pss_cons (ps_if (pt_cmpR op_lt (pv 8) pe_int (nomark _)) (pss_cons (ps_set (i := 12) sclaw.nd rfl (by first | exact Or.inl rfl | exact Or.inr rfl) (pe_cal c__law_counts (hr.mono (by decide)) passL (pa_cons (pv 6) (pa_cons (pv 10) pa_nil)))) (pss_cons (ps_set (i := 13) sclaw.nd rfl (by first | exact Or.inl rfl | exact Or.inr rfl) (pe_cal c__law_counts (hr.mono (by decide)) passL (pa_cons (pv 7) (pa_cons (pv 10) pa_nil)))) (pss_cons (ps_if (pt_cmpR op_ne (pe_cmpR (op_eqD hr.units) (pv 12) (pv 13) (nomark _)) (pe_cmpR op_isN2 (pv 11) pe_non (nomark _)) (nomark _)) (pss_cons (ps_ret pe_bl) pss_nil) pss_nil) (pss_cons (ps_if (pt_not (pt_val (pe_cal c__law_same (hr.mono (by decide)) passL (pa_cons (pe_tup (pa_cons pe_str (pa_cons (pv 12) pa_nil))) (pa_cons (pe_cal c__law_profile (hr.mono (by decide)) passL (pa_cons (pv 6) (pa_cons (pv 8) (pa_cons (pv 9) (pa_cons pe_bl pa_nil))))) pa_nil))))) (pss_cons (ps_ret pe_bl) pss_nil) pss_nil) (pss_cons (ps_if (pt_not (pt_val (pe_cal c__law_same (hr.mono (by decide)) passL (pa_cons (pe_tup (pa_cons pe_str (pa_cons (pv 13) pa_nil))) (pa_cons (pe_cal c__law_profile (hr.mono (by decide)) passL (pa_cons (pv 7) (pa_cons (pv 8) (pa_cons (pv 9) (pa_cons pe_bl pa_nil))))) pa_nil))))) (pss_cons (ps_ret pe_bl) pss_nil) pss_nil) pss_nil))))) pss_nil) (pss_cons (ps_if (pt_not (pt_val (pe_cal c__law_few_told (hr.mono (by decide)) passL (pa_cons (pv 6) (pa_cons (pe_op op_mod (pe_callTy cr_int1 (by rfl) T.n_int (by decide +kernel) (pa_cons (pe_op op_add (pe_cal c__law_cell (hr.mono (by decide)) passL (pa_cons (pv 0) (pa_cons pe_int pa_nil))) pe_int) pa_nil)) pe_int) (pa_cons (pe_cmpR op_eq (pe_op op_mod (pe_callTy cr_int1 (by rfl) T.n_int (by decide +kernel) (pa_cons (pe_op op_fdiv (pe_cal c__law_cell (hr.mono (by decide)) passL (pa_cons (pv 0) (pa_cons pe_int pa_nil))) pe_int) pa_nil)) pe_int) pe_int (nomark _)) pa_nil)))))) (pss_cons (ps_ret pe_bl) pss_nil) pss_nil) (pss_cons (ps_if (pw_or (pt_not (pt_val (pe_cal c__law_telling_refused (hr.mono (by decide)) passL (pa_cons (pe_cal c__law_cell (hr.mono (by decide)) passL (pa_cons (pv 0) (pa_cons pe_int pa_nil))) pa_nil)))) (pw_or1 (pt_not (pt_val (pe_cal c__law_profile_refused (hr.mono (by decide)) passL (pa_cons (pe_cal c__law_cell (hr.mono (by decide)) passL (pa_cons (pv 0) (pa_cons pe_int pa_nil))) pa_nil)))))).pt (pss_cons (ps_ret pe_bl) pss_nil) pss_nil) (pss_cons (ps_if (pt_cmpR op_eq (pe_op op_mod (pe_callTy cr_int1 (by rfl) T.n_int (by decide +kernel) (pa_cons (pe_cal c__law_cell (hr.mono (by decide)) passL (pa_cons (pv 0) (pa_cons pe_int pa_nil))) pa_nil)) pe_int) pe_int (nomark _)) (pss_cons (ps_ret (pe_cal c__law_widest (hr.mono (by decide)) passL (pa_cons (pe_op op_fdiv (pe_cal c__law_cell (hr.mono (by decide)) passL (pa_cons (pv 0) (pa_cons pe_int pa_nil))) pe_int) pa_nil))) pss_nil) pss_nil) (pss_cons (ps_ret pe_bl) pss_nil))))))))))))))))))))
end
end DL
end
section
set_option Elab.async false
set_option linter.all false
set_option warn.classDefReducibility false
set_option synthInstance.maxSize 1000000
set_option synthInstance.maxHeartbeats 4000000
set_option maxRecDepth 100000
set_option maxHeartbeats 4000000
/-! DEFn: the defs of the text, each with its reading, what it computes and its promise. Printed by gen.py. -/
namespace DL
open PySem L2 GX PyProof.Rows TLX

section
variable {P : Program} {w : World} {K : PySem.W.Frag} {mg : Str → Option Value} {base : Heap} {C fI : Addr}

/-! first_loop -/
abbrev rdfirst_loop (K : PySem.W.Frag) (C : Addr)  : TS := (tSeq (tFor (iTup K (tOp (rIxT K) (tVar 0) (tC (.int 1)))) (gTup K 2 (gCons (gName 1) (gCons (gName 2) gNil))) (tSeq (tIfS (tTest (tOp rEq (tVar 1) (tVar 2))) (tSeq (tRet (tVar 1)) tNext) tNext) tNext)) (tSeq (tRet (tC .non)) tNext))
def infirst_loop (K : PySem.W.Frag) (C : Addr)  : RS C E0 (rdfirst_loop K C ) := inferInstance
def Ffirst_loop (K : PySem.W.Frag) (C : Addr)  : PF := fun ds => outF0 ((infirst_loop K C ).run (startA 3 ds))
abbrev Nfirst_loop : List Str := ["web", "first", "second"]
theorem scfirst_loop : FnScope Nfirst_loop ["web"] (defScope (K16.top 9)) := ⟨rfl, rfl, rfl, by decide +kernel, rfl, by decide +kernel, by decide +kernel⟩
theorem okfirst_loop  {f : PF} (T : Tx mg) (D : DefAt K mg (K16.top 9) "first_loop" [])  (hf : ∀ ds, ds.length = 1 → Ref (f ds) (Ffirst_loop K C  ds)) : Cal P w K mg base 1 "first_loop" [] (spF C 1 f) := by
  refine cal_of0 (ps := ["web"]) D scfirst_loop rfl (fun _ _ _ _ _ _ us hl => match us, hl with | [_], _ => rfl) (rdfirst_loop K C ) (infirst_loop K C ) hf fun f cdv A outer s H E hr => ?_
  exact (pss_cons (ps_for (passes_of rfl) rfl (pi_tup (pe_ix ix_tup (pv 0) pe_int (fun _ _ => rfl))) (pg_tup rfl (pgs_cons (pg_name (i := 1) scfirst_loop.nd rfl (by first | exact Or.inl rfl | exact Or.inr rfl)) (pgs_cons (pg_name (i := 2) scfirst_loop.nd rfl (by first | exact Or.inl rfl | exact Or.inr rfl)) pgs_nil))) (pss_cons (ps_if (pt_cmpR op_eq (pv 1) (pv 2) (nomark _)) (pss_cons (ps_ret (pv 1)) pss_nil) pss_nil) pss_nil)) (pss_cons (ps_ret pe_non) pss_nil))
/-! bit_of -/
abbrev rdbit_of (K : PySem.W.Frag) (C : Addr)  : TS := (tSeq (tAsg (tCB rMin2 (tCons (tVar 0) (tCons (tVar 1) tNil))) (gName 2)) (tSeq (tAsg (tCB rMax2 (tCons (tVar 0) (tCons (tVar 1) tNil))) (gName 3)) (tSeq (tRet (tOp (rI0 fun i j => .int (i + j)) (tOp (rI CDiv fun i j => .int (i / j)) (tOp (rI CMul fun i j => .int (i * j)) (tVar 3) (tOp (rI0 fun i j => .int (i + j)) (tVar 3) (tC (.int 1)))) (tC (.int 2))) (tVar 2))) tNext)))
def inbit_of (K : PySem.W.Frag) (C : Addr)  : RS C E0 (rdbit_of K C ) := inferInstance
def Fbit_of (K : PySem.W.Frag) (C : Addr)  : PF := fun ds => outF0 ((inbit_of K C ).run (startA 4 ds))
abbrev Nbit_of : List Str := ["first", "second", "low", "high"]
theorem scbit_of : FnScope Nbit_of ["first", "second"] (defScope (K16.top 11)) := ⟨rfl, rfl, rfl, by decide +kernel, rfl, by decide +kernel, by decide +kernel⟩
theorem okbit_of  {f : PF} (T : Tx mg) (D : DefAt K mg (K16.top 11) "bit_of" [])  (hf : ∀ ds, ds.length = 2 → Ref (f ds) (Fbit_of K C  ds)) : Cal P w K mg base 1 "bit_of" [] (spF C 2 f) := by
  refine cal_of0 (ps := ["first", "second"]) D scbit_of rfl (fun _ _ _ _ _ _ us hl => match us, hl with | [_, _], _ => rfl) (rdbit_of K C ) (inbit_of K C ) hf fun f cdv A outer s H E hr => ?_
  exact (pss_cons (ps_set (i := 2) scbit_of.nd rfl (by first | exact Or.inl rfl | exact Or.inr rfl) (pe_callB (cr_min2 (by rfl)) (by rfl) T.n_min boot_min (pa_cons (pv 0) (pa_cons (pv 1) pa_nil)))) (pss_cons (ps_set (i := 3) scbit_of.nd rfl (by first | exact Or.inl rfl | exact Or.inr rfl) (pe_callB (cr_max2 (by rfl)) (by rfl) T.n_max boot_max (pa_cons (pv 0) (pa_cons (pv 1) pa_nil)))) (pss_cons (ps_ret (pe_op op_add (pe_op op_fdiv (pe_op op_mul (pv 3) (pe_op op_add (pv 3) pe_int)) pe_int) (pv 2))) pss_nil)))
/-! code_of -/
abbrev rdcode_of (K : PySem.W.Frag) (C : Addr) (f_bit_of : PF) : TS := (tSeq (tAsg (tC (.int 0)) (gName 1)) (tSeq (tFor (iTup K (tOp (rIxT K) (tVar 0) (tC (.int 1)))) (gTup K 2 (gCons (gName 2) (gCons (gName 3) gNil))) (tSeq (tAsg (tOp (rI0 fun i j => .int (i + j)) (tVar 1) (tOp (rI CPow fun i j => .int (i * 2 ^ j.toNat)) (tC (.int 1)) (tCall (spF C 2 f_bit_of) [] E0 (tCons (tVar 2) (tCons (tVar 3) tNil))))) (gName 1)) tNext)) (tSeq (tRet (tVar 1)) tNext)))
def incode_of (K : PySem.W.Frag) (C : Addr) (f_bit_of : PF) : RS C E0 (rdcode_of K C f_bit_of) := inferInstance
def Fcode_of (K : PySem.W.Frag) (C : Addr) (f_bit_of : PF) : PF := fun ds => outF0 ((incode_of K C f_bit_of).run (startA 4 ds))
abbrev Ncode_of : List Str := ["web", "code", "first", "second"]
theorem sccode_of : FnScope Ncode_of ["web"] (defScope (K16.top 12)) := ⟨rfl, rfl, rfl, by decide +kernel, rfl, by decide +kernel, by decide +kernel⟩
theorem okcode_of {f_bit_of : PF} {f : PF} (T : Tx mg) (D : DefAt K mg (K16.top 12) "code_of" []) (c_bit_of : Cal P w K mg base 1 "bit_of" [] (spF C 2 f_bit_of)) (hf : ∀ ds, ds.length = 1 → Ref (f ds) (Fcode_of K C f_bit_of ds)) : Cal P w K mg base 2 "code_of" [] (spF C 1 f) := by
  refine cal_of0 (ps := ["web"]) D sccode_of rfl (fun _ _ _ _ _ _ us hl => match us, hl with | [_], _ => rfl) (rdcode_of K C f_bit_of) (incode_of K C f_bit_of) hf fun f cdv A outer s H E hr => ?_
  exact (pss_cons (ps_set (i := 1) sccode_of.nd rfl (by first | exact Or.inl rfl | exact Or.inr rfl) pe_int) (pss_cons (ps_for (passes_of rfl) rfl (pi_tup (pe_ix ix_tup (pv 0) pe_int (fun _ _ => rfl))) (pg_tup rfl (pgs_cons (pg_name (i := 2) sccode_of.nd rfl (by first | exact Or.inl rfl | exact Or.inr rfl)) (pgs_cons (pg_name (i := 3) sccode_of.nd rfl (by first | exact Or.inl rfl | exact Or.inr rfl)) pgs_nil))) (pss_cons (ps_set (i := 1) sccode_of.nd rfl (by first | exact Or.inl rfl | exact Or.inr rfl) (pe_op op_add (pv 1) (pe_op op_shl pe_int (pe_cal c_bit_of (hr.mono (by decide)) passL (pa_cons (pv 2) (pa_cons (pv 3) pa_nil)))))) pss_nil)) (pss_cons (ps_ret (pv 1)) pss_nil)))
/-! web_of_code -/
abbrev rdweb_of_code (K : PySem.W.Frag) (C : Addr) (f_bit_of : PF) : TS := (tSeq (tIfS (tTest (tOp (rI0 fun i j => .bl (decide (j < i))) (tVar 0) (tC (.int 64)))) (tSeq tNever tNext) tNext) (tSeq (tIfS (tOr (tTest (tOp (rI0 fun i j => .bl (decide (i < j))) (tVar 1) (tC (.int 0)))) (tTest (tOp (rI0 fun i j => .bl (decide (j ≤ i))) (tVar 1) (tOp (rI CPow fun i j => .int (i * 2 ^ j.toNat)) (tC (.int 1)) (tOp (rI CDiv fun i j => .int (i / j)) (tOp (rI CMul fun i j => .int (i * j)) (tVar 0) (tOp (rI0 fun i j => .int (i + j)) (tVar 0) (tC (.int 1)))) (tC (.int 2))))))) (tSeq tNever tNext) tNext) (tSeq (tOwn tNil 2) (tSeq (tFor (iRng1 (tCons (tVar 0) tNil)) (gName 3) (tSeq (tFor (iRng2 (tCons (tVar 3) (tCons (tVar 0) tNil))) (gName 4) (tSeq (tIfS (tTest (tOp rEq (tOp (rI0 fun i j => .int (Builtin.bitAnd i j)) (tOp (rI (fun _ j => 0 ≤ j) fun i j => .int (i / 2 ^ j.toNat)) (tVar 1) (tCall (spF C 2 f_bit_of) [] E0 (tCons (tVar 3) (tCons (tVar 4) tNil)))) (tC (.int 1))) (tC (.int 1)))) (tSeq (tDrop (tBM K "list" rAppend (tVar 2) (tCons (tTup (tCons (tVar 3) (tCons (tVar 4) tNil))) tNil))) tNext) tNext) tNext)) tNext)) (tSeq (tRet (tTup (tCons (tVar 0) (tCons (tCB (rTupQ K) (tCons (tVar 2) tNil)) tNil)))) tNext)))))
def inweb_of_code (K : PySem.W.Frag) (C : Addr) (f_bit_of : PF) : RS C E0 (rdweb_of_code K C f_bit_of) := inferInstance
def Fweb_of_code (K : PySem.W.Frag) (C : Addr) (f_bit_of : PF) : PF := fun ds => outF0 ((inweb_of_code K C f_bit_of).run (startA 5 ds))
abbrev Nweb_of_code : List Str := ["size", "code", "edges", "first", "second"]
theorem scweb_of_code : FnScope Nweb_of_code ["size", "code"] (defScope (K16.top 13)) := ⟨rfl, rfl, rfl, by decide +kernel, rfl, by decide +kernel, by decide +kernel⟩
theorem okweb_of_code {f_bit_of : PF} {f : PF} (T : Tx mg) (D : DefAt K mg (K16.top 13) "web_of_code" []) (c_bit_of : Cal P w K mg base 1 "bit_of" [] (spF C 2 f_bit_of)) (hf : ∀ ds, ds.length = 2 → Ref (f ds) (Fweb_of_code K C f_bit_of ds)) : Cal P w K mg base 2 "web_of_code" [] (spF C 2 f) := by
  refine cal_of0 (ps := ["size", "code"]) D scweb_of_code rfl (fun _ _ _ _ _ _ us hl => match us, hl with | [_, _], _ => rfl) (rdweb_of_code K C f_bit_of) (inweb_of_code K C f_bit_of) hf fun f cdv A outer s H E hr => ?_
  exact (pss_cons (ps_if (pt_cmpR op_gt (pv 0) (pe_gl T.c_MAX_NODES) (nomark _)) (pss_cons ps_never pss_nil) pss_nil) (pss_cons (ps_if (pw_or (pt_cmpR op_lt (pv 1) pe_int (nomark _)) (pw_or1 (pt_cmpR op_ge (pv 1) (pe_op op_shl pe_int (pe_op op_fdiv (pe_op op_mul (pv 0) (pe_op op_add (pv 0) pe_int)) pe_int)) (nomark _)))).pt (pss_cons ps_never pss_nil) pss_nil) (pss_cons (ps_set (i := 2) scweb_of_code.nd rfl (by first | exact Or.inl rfl | exact Or.inr rfl) (pe_lst pa_nil)) (pss_cons (ps_for (passes_of rfl) rfl (pi_range1 (by rfl) T.n_range (pa_cons (pv 0) pa_nil)) (pg_name (i := 3) scweb_of_code.nd rfl (by first | exact Or.inl rfl | exact Or.inr rfl)) (pss_cons (ps_for (passes_of rfl) rfl (pi_range2 (by rfl) T.n_range (pa_cons (pv 3) (pa_cons (pv 0) pa_nil))) (pg_name (i := 4) scweb_of_code.nd rfl (by first | exact Or.inl rfl | exact Or.inr rfl)) (pss_cons (ps_if (pt_cmpR op_eq (pe_op op_and (pe_op op_shr (pv 1) (pe_cal c_bit_of (hr.mono (by decide)) passL (pa_cons (pv 3) (pa_cons (pv 4) pa_nil)))) pe_int) pe_int (nomark _)) (pss_cons (ps_expr (pe_bm PySem.F.plainAttrs_list PySem.F.slot_list_append PySem.F.type_list_append mt_append (pv 2) (pa_cons (pe_tup (pa_cons (pv 3) (pa_cons (pv 4) pa_nil))) pa_nil))) pss_nil) pss_nil) pss_nil)) pss_nil)) (pss_cons (ps_ret (pe_tup (pa_cons (pv 0) (pa_cons (pe_callTy cr_tupQ (by rfl) T.n_tuple (by decide +kernel) (pa_cons (pv 2) pa_nil)) pa_nil)))) pss_nil)))))
/-! all_renamings -/
abbrev rdall_renamings (K : PySem.W.Frag) (C : Addr)  : TGn := (tGThen (tPlain (tIfS (tTest (tOp (rI0 fun i j => .bl (decide (j < i))) (tVar 0) (tC (.int 6)))) (tSeq tNever tNext) tNext)) (tGThen (tPlain (tAsg (tLst (tCons (tTup tNil) tNil)) (gName 1))) (tGThen (tPlain (tFor (iRng1 (tCons (tVar 0) tNil)) (gName 2) (tSeq (tAsg (tLc2 (iList K (tVar 1)) (gName 3) tYes (iRng1 (tCons (tVar 0) tNil)) (gName 4) (tTest (tOp (rIn K true) (tVar 4) (tVar 3))) (tOp (rCatA K) (tVar 3) (tTup (tCons (tVar 4) tNil))) [3, 4] [4]) (gName 1)) tNext))) (tGThen (tGFor (iList K (tVar 1)) (gName 3) (tGThen (tGYield (tVar 3)) tG0)) tG0))))
def inall_renamings (K : PySem.W.Frag) (C : Addr)  : RGn C E0 (rdall_renamings K C ) := inferInstance
def Fall_renamings (K : PySem.W.Frag) (C : Addr)  : PG' := fun ds => outG ((inall_renamings K C ).run [] (startA 5 ds))
abbrev Nall_renamings : List Str := ["size", "rows", "_", "row", "node"]
theorem scall_renamings : GScope Nall_renamings ["size"] (defScope (K16.top 16)) := ⟨rfl, rfl, rfl, by decide +kernel, rfl, by decide +kernel, by decide +kernel⟩
theorem okall_renamings  {g : PG'} (T : Tx mg) (D : DefAt K mg (K16.top 16) "all_renamings" [])  (hf : ∀ ds, ds.length = 1 → Ref (g ds) (Fall_renamings K C  ds)) : CalG P w K mg base 1 "all_renamings" [] (spGF C 1 g) := by
  refine calG_of0 (ps := ["size"]) D scall_renamings rfl (fun _ _ _ _ _ _ us hl => match us, hl with | [_], _ => rfl) (rdall_renamings K C ) (inall_renamings K C ) hf fun f cdv A outer s H E pn hr => ?_
  exact (gss_cons (gs_ps (ps_if (pt_cmpR op_gt (pv 0) (pe_gl T.c_MAX_LISTED) (nomark _)) (pss_cons ps_never pss_nil) pss_nil)) (gss_cons (gs_ps (ps_set (i := 1) scall_renamings.nd rfl (by first | exact Or.inl rfl | exact Or.inr rfl) (pe_lst (pa_cons (pe_tup pa_nil) pa_nil)))) (gss_cons (gs_ps (ps_for owns_gcx rfl (pi_range1 (by rfl) T.n_range (pa_cons (pv 0) pa_nil)) (pg_name (i := 2) scall_renamings.nd rfl (by first | exact Or.inl rfl | exact Or.inr rfl)) (pss_cons (ps_setLc2 (own := [("row", 3), ("node", 4)]) (vs1 := [4]) (i := 1) rfl scall_renamings.nd rfl rfl (sw_true rfl rfl rfl (by decide +kernel)) (pi_list (pv 1)) (blkOk_by (own := [("row", 3), ("node", 4)]) (N := Nall_renamings) (by kernel_rfl)) (by decide) (fun _ _ _ _ _ => (pg_name (i := 3) scall_renamings.nd rfl (by first | exact Or.inl rfl | exact Or.inr rfl))) (fun _ _ _ _ _ => pts_nil) (fun _ _ _ _ _ => (pi_range1 (by rfl) T.n_range (pa_cons (pv 0) pa_nil))) (fun _ _ _ _ _ => (pg_name (i := 4) scall_renamings.nd rfl (by first | exact Or.inl rfl | exact Or.inr rfl))) (fun _ _ _ _ _ => (pts_one (pt_cmpR op_notIn_seq (pv 4) (pv 3) (by rfl)))) (fun _ _ _ _ _ => (pe_op op_catA (pv 3) (pe_tup (pa_cons (pv 4) pa_nil))))) pss_nil))) (gss_cons (gs_for owns_gcx rfl (pi_list (pv 1)) (pg_name (i := 3) scall_renamings.nd rfl (by first | exact Or.inl rfl | exact Or.inr rfl)) (gss_cons (gs_yield (pv 3)) gss_nil)) gss_nil))))
/-! code_under -/
abbrev rdcode_under (K : PySem.W.Frag) (C : Addr) (f_bit_of : PF) : TS := (tSeq (tAsg (tC (.int 0)) (gName 2)) (tSeq (tFor (iTup K (tOp (rIxT K) (tVar 0) (tC (.int 1)))) (gTup K 2 (gCons (gName 3) (gCons (gName 4) gNil))) (tSeq (tAsg (tOp (rI0 fun i j => .int (i + j)) (tVar 2) (tOp (rI CPow fun i j => .int (i * 2 ^ j.toNat)) (tC (.int 1)) (tCall (spF C 2 f_bit_of) [] E0 (tCons (tOp (rIxT K) (tVar 1) (tVar 3)) (tCons (tOp (rIxT K) (tVar 1) (tVar 4)) tNil))))) (gName 2)) tNext)) (tSeq (tRet (tVar 2)) tNext)))
def incode_under (K : PySem.W.Frag) (C : Addr) (f_bit_of : PF) : RS C E0 (rdcode_under K C f_bit_of) := inferInstance
def Fcode_under (K : PySem.W.Frag) (C : Addr) (f_bit_of : PF) : PF := fun ds => outF0 ((incode_under K C f_bit_of).run (startA 5 ds))
abbrev Ncode_under : List Str := ["web", "row", "code", "first", "second"]
theorem sccode_under : FnScope Ncode_under ["web", "row"] (defScope (K16.top 17)) := ⟨rfl, rfl, rfl, by decide +kernel, rfl, by decide +kernel, by decide +kernel⟩
theorem okcode_under {f_bit_of : PF} {f : PF} (T : Tx mg) (D : DefAt K mg (K16.top 17) "code_under" []) (c_bit_of : Cal P w K mg base 1 "bit_of" [] (spF C 2 f_bit_of)) (hf : ∀ ds, ds.length = 2 → Ref (f ds) (Fcode_under K C f_bit_of ds)) : Cal P w K mg base 2 "code_under" [] (spF C 2 f) := by
  refine cal_of0 (ps := ["web", "row"]) D sccode_under rfl (fun _ _ _ _ _ _ us hl => match us, hl with | [_, _], _ => rfl) (rdcode_under K C f_bit_of) (incode_under K C f_bit_of) hf fun f cdv A outer s H E hr => ?_
  exact (pss_cons (ps_set (i := 2) sccode_under.nd rfl (by first | exact Or.inl rfl | exact Or.inr rfl) pe_int) (pss_cons (ps_for (passes_of rfl) rfl (pi_tup (pe_ix ix_tup (pv 0) pe_int (fun _ _ => rfl))) (pg_tup rfl (pgs_cons (pg_name (i := 3) sccode_under.nd rfl (by first | exact Or.inl rfl | exact Or.inr rfl)) (pgs_cons (pg_name (i := 4) sccode_under.nd rfl (by first | exact Or.inl rfl | exact Or.inr rfl)) pgs_nil))) (pss_cons (ps_set (i := 2) sccode_under.nd rfl (by first | exact Or.inl rfl | exact Or.inr rfl) (pe_op op_add (pv 2) (pe_op op_shl pe_int (pe_cal c_bit_of (hr.mono (by decide)) passL (pa_cons (pe_ix ix_tup (pv 1) (pv 3) (fun _ _ => rfl)) (pa_cons (pe_ix ix_tup (pv 1) (pv 4) (fun _ _ => rfl)) pa_nil)))))) pss_nil)) (pss_cons (ps_ret (pv 2)) pss_nil)))
/-! check_limit -/
abbrev rdcheck_limit (K : PySem.W.Frag) (C : Addr) (E : XK)  : TS := (tSeq (tAsg (tIf (tB (tVar 1)) (tC (.int 3)) (tC (.int 4))) (gName 2)) (tSeq (tIfS (tTest (tOp (rI0 fun i j => .bl (decide (j < i))) (tVar 0) (tVar 2))) (tSeq (tRaiseTL C (WC E) (tCons (tVar 2) tNil)) tNext) tNext) tNext))
def incheck_limit (K : PySem.W.Frag) (C : Addr) (E : XK)  : RS C E (rdcheck_limit K C E ) := inferInstance
def Fcheck_limit (K : PySem.W.Frag) (C : Addr) (E : XK)  : PF := fun ds => outF ((incheck_limit K C E ).run (startA 3 ds))
abbrev Ncheck_limit : List Str := ["size", "loops", "limit"]
theorem sccheck_limit : FnScope Ncheck_limit ["size", "loops"] (defScope (K16.top 21)) := ⟨rfl, rfl, rfl, by decide +kernel, rfl, by decide +kernel, by decide +kernel⟩
theorem okcheck_limit  {f : PF} (T : Tx mg) (TL : TLTxt P K mg C fI) (D : DefAt K mg (K16.top 21) "check_limit" [])  (hf : ∀ E ds, ds.length = 2 → Ref (f ds) (Fcheck_limit K C E  ds)) : Cal P w K mg base 1 "check_limit" [] (spF C 2 f) := by
  refine cal_ofE (ps := ["size", "loops"]) D sccheck_limit rfl (fun _ _ _ _ _ _ us hl => match us, hl with | [_, _], _ => rfl) (fun E => rdcheck_limit K C E ) (fun E => incheck_limit K C E ) hf fun f cdv A outer s H E hr => ?_
  exact (pss_cons (ps_set (i := 2) sccheck_limit.nd rfl (by first | exact Or.inl rfl | exact Or.inr rfl) (pe_ifExp (pt_val (pv 1)) (pe_gl T.c_MAX_LOOPED) (pe_gl T.c_MAX_SIMPLE))) (pss_cons (ps_if (pt_cmpR op_gt (pv 0) (pv 2) (nomark _)) (pss_cons (ps_raiseTL rfl TL hr (takes_of rfl rfl rfl rfl) (pa_cons (pv 2) pa_nil)) pss_nil) pss_nil) pss_nil))
/-! code_with -/
abbrev rdcode_with (K : PySem.W.Frag) (C : Addr)  : TS := (tSeq (tAsg (tC (.int 0)) (gName 2)) (tSeq (tFor (iEnum K (tCons (tVar 1) tNil)) (gTup K 2 (gCons (gName 3) (gCons (gName 4) gNil))) (tSeq (tIfS (tTest (tOp rEq (tOp (rI0 fun i j => .int (Builtin.bitAnd i j)) (tOp (rI (fun _ j => 0 ≤ j) fun i j => .int (i / 2 ^ j.toNat)) (tVar 0) (tVar 3)) (tC (.int 1))) (tC (.int 1)))) (tSeq (tAsg (tOp (rI0 fun i j => .int (i + j)) (tVar 2) (tOp (rI CPow fun i j => .int (i * 2 ^ j.toNat)) (tC (.int 1)) (tVar 4))) (gName 2)) tNext) tNext) tNext)) (tSeq (tRet (tVar 2)) tNext)))
def incode_with (K : PySem.W.Frag) (C : Addr)  : RS C E0 (rdcode_with K C ) := inferInstance
def Fcode_with (K : PySem.W.Frag) (C : Addr)  : PF := fun ds => outF0 ((incode_with K C ).run (startA 5 ds))
abbrev Ncode_with : List Str := ["number", "bits", "code", "place", "bit"]
theorem sccode_with : FnScope Ncode_with ["number", "bits"] (defScope (K16.top 22)) := ⟨rfl, rfl, rfl, by decide +kernel, rfl, by decide +kernel, by decide +kernel⟩
theorem okcode_with  {f : PF} (T : Tx mg) (D : DefAt K mg (K16.top 22) "code_with" [])  (hf : ∀ ds, ds.length = 2 → Ref (f ds) (Fcode_with K C  ds)) : Cal P w K mg base 1 "code_with" [] (spF C 2 f) := by
  refine cal_of0 (ps := ["number", "bits"]) D sccode_with rfl (fun _ _ _ _ _ _ us hl => match us, hl with | [_, _], _ => rfl) (rdcode_with K C ) (incode_with K C ) hf fun f cdv A outer s H E hr => ?_
  exact (pss_cons (ps_set (i := 2) sccode_with.nd rfl (by first | exact Or.inl rfl | exact Or.inr rfl) pe_int) (pss_cons (ps_for (passes_of rfl) rfl (pi_enum (by rfl) T.n_enumerate (pa_cons (pv 1) pa_nil)) (pg_tup rfl (pgs_cons (pg_name (i := 3) sccode_with.nd rfl (by first | exact Or.inl rfl | exact Or.inr rfl)) (pgs_cons (pg_name (i := 4) sccode_with.nd rfl (by first | exact Or.inl rfl | exact Or.inr rfl)) pgs_nil))) (pss_cons (ps_if (pt_cmpR op_eq (pe_op op_and (pe_op op_shr (pv 0) (pv 3)) pe_int) pe_int (nomark _)) (pss_cons (ps_set (i := 2) sccode_with.nd rfl (by first | exact Or.inl rfl | exact Or.inr rfl) (pe_op op_add (pv 2) (pe_op op_shl pe_int (pv 4)))) pss_nil) pss_nil) pss_nil)) (pss_cons (ps_ret (pv 2)) pss_nil)))
/-! is_least -/
abbrev rdis_least (K : PySem.W.Frag) (C : Addr) (f_code_of : PF) (f_code_under : PF) : TS := (tSeq (tAsg (tCall (spF C 1 f_code_of) [] E0 (tCons (tVar 0) tNil)) (gName 2)) (tSeq (tFor (iList K (tVar 1)) (gName 3) (tSeq (tIfS (tTest (tOp (rI0 fun i j => .bl (decide (i < j))) (tCall (spF C 2 f_code_under) [] E0 (tCons (tVar 0) (tCons (tVar 3) tNil))) (tVar 2))) (tSeq (tRet (tC (.bl false))) tNext) tNext) tNext)) (tSeq (tRet (tC (.bl true))) tNext)))
def inis_least (K : PySem.W.Frag) (C : Addr) (f_code_of : PF) (f_code_under : PF) : RS C E0 (rdis_least K C f_code_of f_code_under) := inferInstance
def Fis_least (K : PySem.W.Frag) (C : Addr) (f_code_of : PF) (f_code_under : PF) : PF := fun ds => outF0 ((inis_least K C f_code_of f_code_under).run (startA 4 ds))
abbrev Nis_least : List Str := ["web", "rows", "code", "row"]
theorem scis_least : FnScope Nis_least ["web", "rows"] (defScope (K16.top 23)) := ⟨rfl, rfl, rfl, by decide +kernel, rfl, by decide +kernel, by decide +kernel⟩
theorem okis_least {f_code_of : PF} {f_code_under : PF} {f : PF} (T : Tx mg) (D : DefAt K mg (K16.top 23) "is_least" []) (c_code_of : Cal P w K mg base 2 "code_of" [] (spF C 1 f_code_of)) (c_code_under : Cal P w K mg base 2 "code_under" [] (spF C 2 f_code_under)) (hf : ∀ ds, ds.length = 2 → Ref (f ds) (Fis_least K C f_code_of f_code_under ds)) : Cal P w K mg base 3 "is_least" [] (spF C 2 f) := by
  refine cal_of0 (ps := ["web", "rows"]) D scis_least rfl (fun _ _ _ _ _ _ us hl => match us, hl with | [_, _], _ => rfl) (rdis_least K C f_code_of f_code_under) (inis_least K C f_code_of f_code_under) hf fun f cdv A outer s H E hr => ?_
  exact (pss_cons (ps_set (i := 2) scis_least.nd rfl (by first | exact Or.inl rfl | exact Or.inr rfl) (pe_cal c_code_of (hr.mono (by decide)) passL (pa_cons (pv 0) pa_nil))) (pss_cons (ps_for (passes_of rfl) rfl (pi_list (pv 1)) (pg_name (i := 3) scis_least.nd rfl (by first | exact Or.inl rfl | exact Or.inr rfl)) (pss_cons (ps_if (pt_cmpR op_lt (pe_cal c_code_under (hr.mono (by decide)) passL (pa_cons (pv 0) (pa_cons (pv 3) pa_nil))) (pv 2) (nomark _)) (pss_cons (ps_ret pe_bl) pss_nil) pss_nil) pss_nil)) (pss_cons (ps_ret pe_bl) pss_nil)))
/-! all_webs -/
abbrev rdall_webs (K : PySem.W.Frag) (C : Addr) (f_check_limit : PF) (g_all_renamings : PG') (f_bit_of : PF) (f_web_of_code : PF) (f_code_with : PF) (f_is_least : PF) : TGn := (tGThen (tPlain (tDrop (tCall (spF C 2 f_check_limit) [] E0 (tCons (tVar 0) (tCons (tVar 1) tNil))))) (tGThen (tPlain (tAsg (tListG (tCallG (spGF C 1 g_all_renamings) [] E0 (tCons (tVar 0) tNil))) (gName 2))) (tGThen (tPlain (tAsg (tLc2 (iRng1 (tCons (tVar 0) tNil)) (gName 6) tYes (iRng1 (tCons (tOp (rI0 fun i j => .int (i + j)) (tVar 6) (tC (.int 1))) tNil)) (gName 7) (tOr (tB (tVar 1)) (tTest (tOp (rI0 fun i j => .bl (decide (i < j))) (tVar 7) (tVar 6)))) (tCall (spF C 2 f_bit_of) [] E0 (tCons (tVar 7) (tCons (tVar 6) tNil))) [6, 7] [7]) (gName 3))) (tGThen (tGFor (iRng1 (tCons (tOp (rI CPow fun i j => .int (i * 2 ^ j.toNat)) (tC (.int 1)) (tCB (rLenQ K) (tCons (tVar 3) tNil))) tNil)) (gName 4) (tGThen (tPlain (tAsg (tCall (spF C 2 f_web_of_code) [] E0 (tCons (tVar 0) (tCons (tCall (spF C 2 f_code_with) [] E0 (tCons (tVar 4) (tCons (tVar 3) tNil))) tNil))) (gName 5))) (tGThen (tGIf (tB (tCall (spF C 2 f_is_least) [] E0 (tCons (tVar 5) (tCons (tVar 2) tNil)))) (tGThen (tGYield (tVar 5)) tG0) tG0) tG0))) tG0))))
def inall_webs (K : PySem.W.Frag) (C : Addr) (f_check_limit : PF) (g_all_renamings : PG') (f_bit_of : PF) (f_web_of_code : PF) (f_code_with : PF) (f_is_least : PF) : RGn C E0 (rdall_webs K C f_check_limit g_all_renamings f_bit_of f_web_of_code f_code_with f_is_least) := inferInstance
def Fall_webs (K : PySem.W.Frag) (C : Addr) (f_check_limit : PF) (g_all_renamings : PG') (f_bit_of : PF) (f_web_of_code : PF) (f_code_with : PF) (f_is_least : PF) : PG' := fun ds => outG ((inall_webs K C f_check_limit g_all_renamings f_bit_of f_web_of_code f_code_with f_is_least).run [] (startA 8 ds))
abbrev Nall_webs : List Str := ["size", "loops", "rows", "bits", "number", "web", "second", "first"]
theorem scall_webs : GScope Nall_webs ["size", "loops"] (defScope (K16.top 24)) := ⟨rfl, rfl, rfl, by decide +kernel, rfl, by decide +kernel, by decide +kernel⟩
theorem okall_webs {f_check_limit : PF} {g_all_renamings : PG'} {f_bit_of : PF} {f_web_of_code : PF} {f_code_with : PF} {f_is_least : PF} {g : PG'} (T : Tx mg) (D : DefAt K mg (K16.top 24) "all_webs" [("loops", .bl false)]) (c_check_limit : Cal P w K mg base 1 "check_limit" [] (spF C 2 f_check_limit)) (c_all_renamings : CalG P w K mg base 1 "all_renamings" [] (spGF C 1 g_all_renamings)) (c_bit_of : Cal P w K mg base 1 "bit_of" [] (spF C 2 f_bit_of)) (c_web_of_code : Cal P w K mg base 2 "web_of_code" [] (spF C 2 f_web_of_code)) (c_code_with : Cal P w K mg base 1 "code_with" [] (spF C 2 f_code_with)) (c_is_least : Cal P w K mg base 3 "is_least" [] (spF C 2 f_is_least)) (hf : ∀ ds, ds.length = 2 → Ref (g ds) (Fall_webs K C f_check_limit g_all_renamings f_bit_of f_web_of_code f_code_with f_is_least ds)) : CalGN P w K mg base 6 "all_webs" 1 ["loops"] (spGF C 2 g) := by
  refine calG_ofK (kws := [("loops", .bl false)]) (ps := ["size", "loops"]) D scall_webs rfl (by simp) (fun _ _ _ _ _ _ us mv ws l1 l2 l3 => match us, l1, mv, l2, ws, l3 with | [_], _, [], _, [_], _ => rfl) (rdall_webs K C f_check_limit g_all_renamings f_bit_of f_web_of_code f_code_with f_is_least) (inall_webs K C f_check_limit g_all_renamings f_bit_of f_web_of_code f_code_with f_is_least) hf fun f cdv A outer s H E pn hr => ?_
  exact (gss_cons (gs_ps (ps_expr (pe_cal c_check_limit (hr.mono (by decide)) passL (pa_cons (pv 0) (pa_cons (pv 1) pa_nil))))) (gss_cons (gs_ps (ps_set (i := 2) scall_webs.nd rfl (by first | exact Or.inl rfl | exact Or.inr rfl) (pe_calG c_all_renamings (hr.mono (by decide)) T.n_list (pa_cons (pv 0) pa_nil)))) (gss_cons (gs_ps (ps_setLc2 (own := [("second", 6), ("first", 7)]) (vs1 := [7]) (i := 3) rfl scall_webs.nd rfl rfl (sw_true rfl rfl rfl (by decide +kernel)) (pi_range1 (by rfl) T.n_range (pa_cons (pv 0) pa_nil)) (blkOk_by (own := [("second", 6), ("first", 7)]) (N := Nall_webs) (by kernel_rfl)) (by decide) (fun _ _ _ _ _ => (pg_name (i := 6) scall_webs.nd rfl (by first | exact Or.inl rfl | exact Or.inr rfl))) (fun _ _ _ _ _ => pts_nil) (fun _ _ _ _ _ => (pi_range1 (by rfl) T.n_range (pa_cons (pe_op op_add (pv 6) pe_int) pa_nil))) (fun _ _ _ _ _ => (pg_name (i := 7) scall_webs.nd rfl (by first | exact Or.inl rfl | exact Or.inr rfl))) (fun _ _ _ _ _ => (pts_one (pw_or (pt_val (pv 1)) (pw_or1 (pt_cmpR op_lt (pv 7) (pv 6) (nomark _)))).pt)) (fun _ _ _ _ _ => (pe_cal c_bit_of (hr.mono (by decide)) passL (pa_cons (pv 7) (pa_cons (pv 6) pa_nil)))))) (gss_cons (gs_for owns_gcx rfl (pi_range1 (by rfl) T.n_range (pa_cons (pe_op op_shl pe_int (pe_callB cr_lenQ (by rfl) T.n_len PySem.boot_len (pa_cons (pv 3) pa_nil))) pa_nil)) (pg_name (i := 4) scall_webs.nd rfl (by first | exact Or.inl rfl | exact Or.inr rfl)) (gss_cons (gs_ps (ps_set (i := 5) scall_webs.nd rfl (by first | exact Or.inl rfl | exact Or.inr rfl) (pe_cal c_web_of_code (hr.mono (by decide)) passL (pa_cons (pv 0) (pa_cons (pe_cal c_code_with (hr.mono (by decide)) passL (pa_cons (pv 4) (pa_cons (pv 3) pa_nil))) pa_nil))))) (gss_cons (gs_if (pt_val (pe_cal c_is_least (hr.mono (by decide)) passL (pa_cons (pv 5) (pa_cons (pv 2) pa_nil)))) (gss_cons (gs_yield (pv 5)) gss_nil) gss_nil) gss_nil))) gss_nil))))
/-! catalogue -/
abbrev rdcatalogue (K : PySem.W.Frag) (C : Addr) (E : XK) (f_check_limit : PF) (g_all_webs : PG') : TS := (tSeq (tDrop (tCall (spF C 2 f_check_limit) [] (EC C E) (tCons (tVar 0) (tCons (tVar 1) tNil)))) (tSeq (tOwn tNil 2) (tSeq (tFor (iRng1 (tCons (tOp (rI0 fun i j => .int (i + j)) (tVar 0) (tC (.int 1))) tNil)) (gName 3) (tSeq (tDrop (tBM K "list" rExtend (tVar 2) (tCons (tListG (tCallGN 1 1 (spGF C 2 g_all_webs) (fun vs zs => vs ++ zs) E0 (tCons (tVar 3) tNil) (tCons (tVar 1) tNil))) tNil))) tNext)) (tSeq (tRet (tVar 2)) tNext))))
def incatalogue (K : PySem.W.Frag) (C : Addr) (E : XK) (f_check_limit : PF) (g_all_webs : PG') : RS C E (rdcatalogue K C E f_check_limit g_all_webs) := inferInstance
def Fcatalogue (K : PySem.W.Frag) (C : Addr) (E : XK) (f_check_limit : PF) (g_all_webs : PG') : PF := fun ds => outF ((incatalogue K C E f_check_limit g_all_webs).run (startA 4 ds))
abbrev Ncatalogue : List Str := ["limit", "loops", "found", "size"]
theorem sccatalogue : FnScope Ncatalogue ["limit", "loops"] (defScope (K16.top 25)) := ⟨rfl, rfl, rfl, by decide +kernel, rfl, by decide +kernel, by decide +kernel⟩
theorem okcatalogue {f_check_limit : PF} {g_all_webs : PG'} {f : PF} (T : Tx mg) (D : DefAt K mg (K16.top 25) "catalogue" [("loops", .bl false)]) (c_check_limit : Cal P w K mg base 1 "check_limit" [] (spF C 2 f_check_limit)) (c_all_webs : CalGN P w K mg base 6 "all_webs" 1 ["loops"] (spGF C 2 g_all_webs)) (hf : ∀ E ds, ds.length = 2 → Ref (f ds) (Fcatalogue K C E f_check_limit g_all_webs ds)) : Cal P w K mg base 10 "catalogue" [.bl false] (spF C 2 f) ∧ CalN P w K mg base 10 "catalogue" 1 ["loops"] (spF C 2 f) := by
  refine cal_ofK (kws := [("loops", .bl false)]) (ps := ["limit", "loops"]) D sccatalogue rfl (by simp) rfl rfl (fun _ _ _ _ _ _ us ws l1 l2 => match us, l1, ws, l2 with | [_], _, [_], _ => ⟨_, _, _, _, _, _, rfl, rfl, rfl⟩) (fun _ _ _ _ _ _ us mv ws l1 l2 l3 => match us, l1, mv, l2, ws, l3 with | [_], _, [], _, [_], _ => rfl) (fun E => rdcatalogue K C E f_check_limit g_all_webs) (fun E => incatalogue K C E f_check_limit g_all_webs) hf fun f cdv A outer s H E hr => ?_
  exact (pss_cons (ps_expr (pe_cal c_check_limit (hr.mono (by decide)) (passE rfl rfl rfl rfl) (pa_cons (pv 0) (pa_cons (pv 1) pa_nil)))) (pss_cons (ps_set (i := 2) sccatalogue.nd rfl (by first | exact Or.inl rfl | exact Or.inr rfl) (pe_lst pa_nil)) (pss_cons (ps_for (passes_of rfl) rfl (pi_range1 (by rfl) T.n_range (pa_cons (pe_op op_add (pv 0) pe_int) pa_nil)) (pg_name (i := 3) sccatalogue.nd rfl (by first | exact Or.inl rfl | exact Or.inr rfl)) (pss_cons (ps_expr (pe_bm PySem.F.plainAttrs_list PySem.F.slot_list_extend PySem.F.type_list_extend mt_extend (pv 2) (pa_cons (pe_calGN c_all_webs (hr.mono (by decide)) T.n_list (pa_cons (pv 3) pa_nil) (pk_cons (pv 1) pk_nil)) pa_nil))) pss_nil)) (pss_cons (ps_ret (pv 2)) pss_nil))))
end
end DL
end
section
set_option Elab.async false
set_option linter.all false
set_option warn.classDefReducibility false
set_option synthInstance.maxSize 1000000
set_option synthInstance.maxHeartbeats 4000000
set_option maxRecDepth 100000
set_option maxHeartbeats 4000000
/-! DEFn: the defs of the text, each with its reading, what it computes and its promise. Printed by gen.py. -/
namespace DL
open PySem L2 GX PyProof.Rows TLX

section
variable {P : Program} {w : World} {K : PySem.W.Frag} {mg : Str → Option Value} {base : Heap} {C fI : Addr}

/-! neighbour_rows -/
abbrev rdneighbour_rows (K : PySem.W.Frag) (C : Addr)  : TS := (tSeq (tAsg (tLc (iRng1 (tCons (tOp (rIxT K) (tVar 0) (tC (.int 0))) tNil)) (gName 4) tYes (tLst tNil) [4]) (gName 1)) (tSeq (tFor (iTup K (tOp (rIxT K) (tVar 0) (tC (.int 1)))) (gTup K 2 (gCons (gName 2) (gCons (gName 3) gNil))) (tSeq (tDrop (tBM K "list" rAppend (tOp (rIxL K) (tVar 1) (tVar 2)) (tCons (tVar 3) tNil))) (tSeq (tIfS (tTest (tOp rNe (tVar 2) (tVar 3))) (tSeq (tDrop (tBM K "list" rAppend (tOp (rIxL K) (tVar 1) (tVar 3)) (tCons (tVar 2) tNil))) tNext) tNext) tNext))) (tSeq (tRet (tLc (iList K (tVar 1)) (gName 5) tYes (tCB (rSortedI K) (tCons (tVar 5) tNil)) [5])) tNext)))
abbrev Nneighbour_rows : List Str := ["web", "rows", "first", "second", "_", "row"]
theorem scneighbour_rows : FnScope Nneighbour_rows ["web"] (defScope (K16.top 8)) := ⟨rfl, rfl, rfl, by decide +kernel, rfl, by decide +kernel, by decide +kernel⟩
theorem bodyneighbour_rows (T : Tx mg)  (f : Addr) (cdv : Value) (A : Around) (outer : List Env) (s : Shared) (H : Hp) (E : XK) (hr : Room 0 (A.deeper (envOfC "neighbour_rows" (defScope (K16.top 8)) s.heap.objs.size f cdv))) : PSs (cxOf (L2.CX P w) P w K mg base Nneighbour_rows "neighbour_rows" (defScope (K16.top 8)) f cdv A outer s H E) (defBody (K16.top 8)) (rdneighbour_rows K C ) := by
  have scneighbour_rows.nd := scneighbour_rows.nd
  let Nneighbour_rows := Nneighbour_rows
  exact (pss_cons (ps_setLc (own := [("_", 4)]) (i := 1) rfl scneighbour_rows.nd rfl rfl (sw_true rfl rfl rfl (by decide +kernel)) (pi_range1 (by rfl) T.n_range (pa_cons (pe_ix ix_tup (pv 0) pe_int (fun _ _ => rfl)) pa_nil)) (blkOk_by (own := [("_", 4)]) (N := Nneighbour_rows) (by kernel_rfl)) (fun _ _ _ _ _ => (pg_name (i := 4) scneighbour_rows.nd rfl (by first | exact Or.inl rfl | exact Or.inr rfl))) (fun _ _ _ _ _ => pts_nil) (fun _ _ _ _ _ => (pe_lst pa_nil))) (pss_cons (ps_for (passes_of rfl) rfl (pi_tup (pe_ix ix_tup (pv 0) pe_int (fun _ _ => rfl))) (pg_tup rfl (pgs_cons (pg_name (i := 2) scneighbour_rows.nd rfl (by first | exact Or.inl rfl | exact Or.inr rfl)) (pgs_cons (pg_name (i := 3) scneighbour_rows.nd rfl (by first | exact Or.inl rfl | exact Or.inr rfl)) pgs_nil))) (pss_cons (ps_expr (pe_bm PySem.F.plainAttrs_list PySem.F.slot_list_append PySem.F.type_list_append mt_append (pe_ix ix_list (pv 1) (pv 2) (fun _ _ => rfl)) (pa_cons (pv 3) pa_nil))) (pss_cons (ps_if (pt_cmpR op_ne (pv 2) (pv 3) (nomark _)) (pss_cons (ps_expr (pe_bm PySem.F.plainAttrs_list PySem.F.slot_list_append PySem.F.type_list_append mt_append (pe_ix ix_list (pv 1) (pv 3) (fun _ _ => rfl)) (pa_cons (pv 2) pa_nil))) pss_nil) pss_nil) pss_nil))) (pss_cons (ps_ret (pe_lc (own := [("row", 5)]) rfl scneighbour_rows.nd (pi_list (pv 1)) (blkOk_by (own := [("row", 5)]) (N := Nneighbour_rows) (by kernel_rfl)) (fun _ _ _ _ _ => (pg_name (i := 5) scneighbour_rows.nd rfl (by first | exact Or.inl rfl | exact Or.inr rfl))) (fun _ _ _ _ _ => pts_nil) (fun _ _ _ _ _ => (pe_callB cr_sortedI (by rfl) T.n_sorted boot_sorted (pa_cons (pv 5) pa_nil))))) pss_nil)))
/-! count_maps -/
abbrev rdcount_maps (K : PySem.W.Frag) (C : Addr) (E : XK)  : TS := (tSeq (tAsg (tC (.int 1)) (gName 3)) (tSeq (tFor (iRng1 (tCons (tVar 0) tNil)) (gName 4) (tSeq (tAsg (tOp (rI CMul fun i j => .int (i * j)) (tVar 3) (tVar 1)) (gName 3)) (tSeq (tIfS (tTest (tOp (rI0 fun i j => .bl (decide (j < i))) (tVar 3) (tVar 2))) (tSeq (tRaiseTL C (WC E) (tCons (tVar 2) tNil)) tNext) tNext) tNext))) (tSeq (tRet (tVar 3)) tNext)))
def incount_maps (K : PySem.W.Frag) (C : Addr) (E : XK)  : RS C E (rdcount_maps K C E ) := inferInstance
def Fcount_maps (K : PySem.W.Frag) (C : Addr) (E : XK)  : PF := fun ds => outF ((incount_maps K C E ).run (startA 5 ds))
abbrev Ncount_maps : List Str := ["length", "size", "limit", "count", "_"]
theorem sccount_maps : FnScope Ncount_maps ["length", "size", "limit"] (defScope (K16.top 28)) := ⟨rfl, rfl, rfl, by decide +kernel, rfl, by decide +kernel, by decide +kernel⟩
theorem okcount_maps  {f : PF} (T : Tx mg) (TL : TLTxt P K mg C fI) (D : DefAt K mg (K16.top 28) "count_maps" [])  (hf : ∀ E ds, ds.length = 3 → Ref (f ds) (Fcount_maps K C E  ds)) : Cal P w K mg base 1 "count_maps" [] (spF C 3 f) := by
  refine cal_ofE (ps := ["length", "size", "limit"]) D sccount_maps rfl (fun _ _ _ _ _ _ us hl => match us, hl with | [_, _, _], _ => rfl) (fun E => rdcount_maps K C E ) (fun E => incount_maps K C E ) hf fun f cdv A outer s H E hr => ?_
  exact (pss_cons (ps_set (i := 3) sccount_maps.nd rfl (by first | exact Or.inl rfl | exact Or.inr rfl) pe_int) (pss_cons (ps_for (passes_of rfl) rfl (pi_range1 (by rfl) T.n_range (pa_cons (pv 0) pa_nil)) (pg_name (i := 4) sccount_maps.nd rfl (by first | exact Or.inl rfl | exact Or.inr rfl)) (pss_cons (ps_set (i := 3) sccount_maps.nd rfl (by first | exact Or.inl rfl | exact Or.inr rfl) (pe_op op_mul (pv 3) (pv 1))) (pss_cons (ps_if (pt_cmpR op_gt (pv 3) (pv 2) (nomark _)) (pss_cons (ps_raiseTL rfl TL hr (takes_of rfl rfl rfl rfl) (pa_cons (pv 2) pa_nil)) pss_nil) pss_nil) pss_nil))) (pss_cons (ps_ret (pv 3)) pss_nil)))
/-! fits -/
abbrev rdfits (K : PySem.W.Frag) (C : Addr)  : TS := (tSeq (tFor (iList K (tOp (rIxL K) (tVar 0) (tCB (rLenQ K) (tCons (tVar 2) tNil)))) (gName 4) (tSeq (tAsg (tIf (tTest (tOp (rI0 fun i j => .bl (decide (i < j))) (tVar 4) (tCB (rLenQ K) (tCons (tVar 2) tNil)))) (tOp (rIxL K) (tVar 2) (tVar 4)) (tVar 3)) (gName 5)) (tSeq (tIfS (tTest (tOp (rIn K true) (tVar 5) (tOp (rIxL K) (tVar 1) (tVar 3)))) (tSeq (tRet (tC (.bl false))) tNext) tNext) tNext))) (tSeq (tRet (tC (.bl true))) tNext))
def infits (K : PySem.W.Frag) (C : Addr)  : RS C E0 (rdfits K C ) := inferInstance
def Ffits (K : PySem.W.Frag) (C : Addr)  : PF := fun ds => outF0 ((infits K C ).run (startA 6 ds))
abbrev Nfits : List Str := ["earlier", "near", "row", "value", "node", "partner"]
theorem scfits : FnScope Nfits ["earlier", "near", "row", "value"] (defScope (K16.top 29)) := ⟨rfl, rfl, rfl, by decide +kernel, rfl, by decide +kernel, by decide +kernel⟩
theorem okfits  {f : PF} (T : Tx mg) (D : DefAt K mg (K16.top 29) "fits" [])  (hf : ∀ ds, ds.length = 4 → Ref (f ds) (Ffits K C  ds)) : Cal P w K mg base 1 "fits" [] (spF C 4 f) := by
  refine cal_of0 (ps := ["earlier", "near", "row", "value"]) D scfits rfl (fun _ _ _ _ _ _ us hl => match us, hl with | [_, _, _, _], _ => rfl) (rdfits K C ) (infits K C ) hf fun f cdv A outer s H E hr => ?_
  exact (pss_cons (ps_for (passes_of rfl) rfl (pi_list (pe_ix ix_list (pv 0) (pe_callB cr_lenQ (by rfl) T.n_len PySem.boot_len (pa_cons (pv 2) pa_nil)) (fun _ _ => rfl))) (pg_name (i := 4) scfits.nd rfl (by first | exact Or.inl rfl | exact Or.inr rfl)) (pss_cons (ps_set (i := 5) scfits.nd rfl (by first | exact Or.inl rfl | exact Or.inr rfl) (pe_ifExp (pt_cmpR op_lt (pv 4) (pe_callB cr_lenQ (by rfl) T.n_len PySem.boot_len (pa_cons (pv 2) pa_nil)) (nomark _)) (pe_ix ix_list (pv 2) (pv 4) (fun _ _ => rfl)) (pv 3))) (pss_cons (ps_if (pt_cmpR op_notIn_seq (pv 5) (pe_ix ix_list (pv 1) (pv 3) (fun _ _ => rfl)) (by rfl)) (pss_cons (ps_ret pe_bl) pss_nil) pss_nil) pss_nil))) (pss_cons (ps_ret pe_bl) pss_nil))
/-! homs -/
abbrev rdhoms (K : PySem.W.Frag) (C : Addr) (f_count_maps : PF) (f_neighbour_rows : PF) (f_fits : PF) : TGn := (tGThen (tPlain (tDrop (tCall (spF C 3 f_count_maps) [] E0 (tCons (tOp (rIxT K) (tVar 0) (tC (.int 0))) (tCons (tOp (rIxT K) (tVar 1) (tC (.int 0))) (tCons (tC (.int 4096)) tNil)))))) (tGThen (tPlain (tAsg (tLc (iEnum K (tCons (tCall (spF C 1 f_neighbour_rows) [] E0 (tCons (tVar 0) tNil)) tNil)) (gTup K 2 (gCons (gName 7) (gCons (gName 8) gNil))) tYes (tLc (iList K (tVar 8)) (gName 6) (tTest (tOp (rI0 fun i j => .bl (decide (i ≤ j))) (tVar 6) (tVar 7))) (tVar 6) [6]) [7, 8]) (gName 2))) (tGThen (tPlain (tAsg (tCall (spF C 1 f_neighbour_rows) [] E0 (tCons (tVar 1) tNil)) (gName 3))) (tGThen (tPlain (tOwn tNil 4)) (tGThen (tPlain (tAsg (tC (.int 0)) (gName 5))) (tGThen (tGWhile (tB (tC (.bl true))) (tGThen (tGIf (tTest (tOp rEq (tCB (rLenQ K) (tCons (tVar 4) tNil)) (tOp (rIxT K) (tVar 0) (tC (.int 0))))) (tGThen (tGYield (tCB (rTupQ K) (tCons (tVar 4) tNil))) tG0) tG0) (tGThen (tPlain (tIfS (tOr (tTest (tOp rEq (tCB (rLenQ K) (tCons (tVar 4) tNil)) (tOp (rIxT K) (tVar 0) (tC (.int 0))))) (tTest (tOp rEq (tVar 5) (tOp (rIxT K) (tVar 1) (tC (.int 0)))))) (tSeq (tIfS (tNot (tTru K (tVar 4))) (tSeq tRetN tNext) tNext) (tSeq (tAsg (tOp (rI0 fun i j => .int (i + j)) (tBM0 K "list" rPop (tVar 4)) (tC (.int 1))) (gName 5)) tNext)) (tSeq (tIfS (tB (tCall (spF C 4 f_fits) [] E0 (tCons (tVar 2) (tCons (tVar 3) (tCons (tVar 4) (tCons (tVar 5) tNil)))))) (tSeq (tDrop (tBM K "list" rAppend (tVar 4) (tCons (tVar 5) tNil))) (tSeq (tAsg (tC (.int 0)) (gName 5)) tNext)) (tSeq (tAsg (tOp (rI0 fun i j => .int (i + j)) (tVar 5) (tC (.int 1))) (gName 5)) tNext)) tNext))) tG0))) tG0))))))
def inhoms (K : PySem.W.Frag) (C : Addr) (f_count_maps : PF) (f_neighbour_rows : PF) (f_fits : PF) : RGn C E0 (rdhoms K C f_count_maps f_neighbour_rows f_fits) := inferInstance
def Fhoms (K : PySem.W.Frag) (C : Addr) (f_count_maps : PF) (f_neighbour_rows : PF) (f_fits : PF) : PG' := fun ds => outG ((inhoms K C f_count_maps f_neighbour_rows f_fits).run [] (startA 9 ds))
abbrev Nhoms : List Str := ["x", "a", "earlier", "near", "row", "value", "other", "node", "others"]
theorem schoms : GScope Nhoms ["x", "a"] (defScope (K16.top 30)) := ⟨rfl, rfl, rfl, by decide +kernel, rfl, by decide +kernel, by decide +kernel⟩
theorem okhoms {f_count_maps : PF} {f_neighbour_rows : PF} {f_fits : PF} {g : PG'} (T : Tx mg) (D : DefAt K mg (K16.top 30) "homs" []) (c_count_maps : Cal P w K mg base 1 "count_maps" [] (spF C 3 f_count_maps)) (c_neighbour_rows : Cal P w K mg base 1 "neighbour_rows" [] (spF C 1 f_neighbour_rows)) (c_fits : Cal P w K mg base 1 "fits" [] (spF C 4 f_fits)) (hf : ∀ ds, ds.length = 2 → Ref (g ds) (Fhoms K C f_count_maps f_neighbour_rows f_fits ds)) : CalG P w K mg base 2 "homs" [] (spGF C 2 g) := by
  refine calG_of0 (ps := ["x", "a"]) D schoms rfl (fun _ _ _ _ _ _ us hl => match us, hl with | [_, _], _ => rfl) (rdhoms K C f_count_maps f_neighbour_rows f_fits) (inhoms K C f_count_maps f_neighbour_rows f_fits) hf fun f cdv A outer s H E pn hr => ?_
  exact (gss_cons (gs_ps (ps_expr (pe_cal c_count_maps (hr.mono (by decide)) passL (pa_cons (pe_ix ix_tup (pv 0) pe_int (fun _ _ => rfl)) (pa_cons (pe_ix ix_tup (pv 1) pe_int (fun _ _ => rfl)) (pa_cons (pe_gl T.c_MAX_MAPS) pa_nil)))))) (gss_cons (gs_ps (ps_setLc (own := [("node", 7), ("others", 8)]) (i := 2) rfl schoms.nd rfl rfl (sw_true rfl rfl rfl (by decide +kernel)) (pi_enum (by rfl) T.n_enumerate (pa_cons (pe_cal c_neighbour_rows (hr.mono (by decide)) passL (pa_cons (pv 0) pa_nil)) pa_nil)) (blkOk_by (own := [("node", 7), ("others", 8)]) (N := Nhoms) (by kernel_rfl)) (fun _ _ _ _ _ => (pg_tup rfl (pgs_cons (pg_name (i := 7) schoms.nd rfl (by first | exact Or.inl rfl | exact Or.inr rfl)) (pgs_cons (pg_name (i := 8) schoms.nd rfl (by first | exact Or.inl rfl | exact Or.inr rfl)) pgs_nil)))) (fun _ _ _ _ _ => pts_nil) (fun _ _ _ _ _ => (pe_lc (own := [("other", 6)]) rfl schoms.nd (pi_list (pv 8)) (blkOk_by (own := [("other", 6)]) (N := Nhoms) (by kernel_rfl)) (fun _ _ _ _ _ => (pg_name (i := 6) schoms.nd rfl (by first | exact Or.inl rfl | exact Or.inr rfl))) (fun _ _ _ _ _ => (pts_one (pt_cmpR op_le (pv 6) (pv 7) (nomark _)))) (fun _ _ _ _ _ => (pv 6)))))) (gss_cons (gs_ps (ps_set (i := 3) schoms.nd rfl (by first | exact Or.inl rfl | exact Or.inr rfl) (pe_cal c_neighbour_rows (hr.mono (by decide)) passL (pa_cons (pv 1) pa_nil)))) (gss_cons (gs_ps (ps_set (i := 4) schoms.nd rfl (by first | exact Or.inl rfl | exact Or.inr rfl) (pe_lst pa_nil))) (gss_cons (gs_ps (ps_set (i := 5) schoms.nd rfl (by first | exact Or.inl rfl | exact Or.inr rfl) pe_int)) (gss_cons (gs_while owns_gcx (pt_val pe_bl) (gss_cons (gs_if (pt_cmpR op_eq (pe_callB cr_lenQ (by rfl) T.n_len PySem.boot_len (pa_cons (pv 4) pa_nil)) (pe_ix ix_tup (pv 0) pe_int (fun _ _ => rfl)) (nomark _)) (gss_cons (gs_yield (pe_callTy cr_tupQ (by rfl) T.n_tuple (by decide +kernel) (pa_cons (pv 4) pa_nil))) gss_nil) gss_nil) (gss_cons (gs_ps (ps_if (pw_or (pt_cmpR op_eq (pe_callB cr_lenQ (by rfl) T.n_len PySem.boot_len (pa_cons (pv 4) pa_nil)) (pe_ix ix_tup (pv 0) pe_int (fun _ _ => rfl)) (nomark _)) (pw_or1 (pt_cmpR op_eq (pv 5) (pe_ix ix_tup (pv 1) pe_int (fun _ _ => rfl)) (nomark _)))).pt (pss_cons (ps_if (pt_not (pt_tru (pv 4) (fun _ => rfl))) (pss_cons ps_retN pss_nil) pss_nil) (pss_cons (ps_set (i := 5) schoms.nd rfl (by first | exact Or.inl rfl | exact Or.inr rfl) (pe_op op_add (pe_bm0 PySem.F.plainAttrs_list PySem.F.slot_list_pop PySem.F.type_list_pop mt_pop (pv 4)) pe_int)) pss_nil)) (pss_cons (ps_if (pt_val (pe_cal c_fits (hr.mono (by decide)) passL (pa_cons (pv 2) (pa_cons (pv 3) (pa_cons (pv 4) (pa_cons (pv 5) pa_nil)))))) (pss_cons (ps_expr (pe_bm PySem.F.plainAttrs_list PySem.F.slot_list_append PySem.F.type_list_append mt_append (pv 4) (pa_cons (pv 5) pa_nil))) (pss_cons (ps_set (i := 5) schoms.nd rfl (by first | exact Or.inl rfl | exact Or.inr rfl) pe_int) pss_nil)) (pss_cons (ps_set (i := 5) schoms.nd rfl (by first | exact Or.inl rfl | exact Or.inr rfl) (pe_op op_add (pv 5) pe_int)) pss_nil)) pss_nil))) gss_nil))) gss_nil))))))
/-! count_homs -/
abbrev rdcount_homs (K : PySem.W.Frag) (C : Addr) (g_homs : PG') : TS := (tSeq (tRet (tCB (rLenQ K) (tCons (tListG (tCallG (spGF C 2 g_homs) [] E0 (tCons (tVar 0) (tCons (tVar 1) tNil)))) tNil))) tNext)
def incount_homs (K : PySem.W.Frag) (C : Addr) (g_homs : PG') : RS C E0 (rdcount_homs K C g_homs) := inferInstance
def Fcount_homs (K : PySem.W.Frag) (C : Addr) (g_homs : PG') : PF := fun ds => outF0 ((incount_homs K C g_homs).run (startA 2 ds))
abbrev Ncount_homs : List Str := ["x", "a"]
theorem sccount_homs : FnScope Ncount_homs ["x", "a"] (defScope (K16.top 31)) := ⟨rfl, rfl, rfl, by decide +kernel, rfl, by decide +kernel, by decide +kernel⟩
theorem okcount_homs {g_homs : PG'} {f : PF} (T : Tx mg) (D : DefAt K mg (K16.top 31) "count_homs" []) (c_homs : CalG P w K mg base 2 "homs" [] (spGF C 2 g_homs)) (hf : ∀ ds, ds.length = 2 → Ref (f ds) (Fcount_homs K C g_homs ds)) : Cal P w K mg base 6 "count_homs" [] (spF C 2 f) := by
  refine cal_of0 (ps := ["x", "a"]) D sccount_homs rfl (fun _ _ _ _ _ _ us hl => match us, hl with | [_, _], _ => rfl) (rdcount_homs K C g_homs) (incount_homs K C g_homs) hf fun f cdv A outer s H E hr => ?_
  exact (pss_cons (ps_ret (pe_callB cr_lenQ (by rfl) T.n_len PySem.boot_len (pa_cons (pe_calG c_homs (hr.mono (by decide)) T.n_list (pa_cons (pv 0) (pa_cons (pv 1) pa_nil))) pa_nil))) pss_nil)
/-! may_follow -/
abbrev rdmay_follow (K : PySem.W.Frag) (C : Addr)  : TS := (tSeq (tAsg (tCB (rLenQ K) (tCons (tVar 2) tNil)) (gName 4)) (tSeq (tIfS (tOr (tTest (tOp (rIn K false) (tVar 3) (tVar 2))) (tTest (tOp rNe (tCB (rLenQ K) (tCons (tOp (rIxL K) (tVar 0) (tVar 4)) tNil)) (tCB (rLenQ K) (tCons (tOp (rIxL K) (tVar 1) (tVar 3)) tNil))))) (tSeq (tRet (tC (.bl false))) tNext) tNext) (tSeq (tIfS (tTest (tOp rNe (tOp (rIn K false) (tVar 4) (tOp (rIxL K) (tVar 0) (tVar 4))) (tOp (rIn K false) (tVar 3) (tOp (rIxL K) (tVar 1) (tVar 3))))) (tSeq (tRet (tC (.bl false))) tNext) tNext) (tSeq (tFor (iEnum K (tCons (tVar 2) tNil)) (gTup K 2 (gCons (gName 5) (gCons (gName 6) gNil))) (tSeq (tIfS (tTest (tOp rNe (tOp (rIn K false) (tVar 5) (tOp (rIxL K) (tVar 0) (tVar 4))) (tOp (rIn K false) (tVar 6) (tOp (rIxL K) (tVar 1) (tVar 3))))) (tSeq (tRet (tC (.bl false))) tNext) tNext) tNext)) (tSeq (tRet (tC (.bl true))) tNext)))))
def inmay_follow (K : PySem.W.Frag) (C : Addr)  : RS C E0 (rdmay_follow K C ) := inferInstance
def Fmay_follow (K : PySem.W.Frag) (C : Addr)  : PF := fun ds => outF0 ((inmay_follow K C ).run (startA 7 ds))
abbrev Nmay_follow : List Str := ["first", "second", "row", "place", "node", "earlier", "number"]
theorem scmay_follow : FnScope Nmay_follow ["first", "second", "row", "place"] (defScope (K16.top 34)) := ⟨rfl, rfl, rfl, by decide +kernel, rfl, by decide +kernel, by decide +kernel⟩
theorem okmay_follow  {f : PF} (T : Tx mg) (D : DefAt K mg (K16.top 34) "may_follow" [])  (hf : ∀ ds, ds.length = 4 → Ref (f ds) (Fmay_follow K C  ds)) : Cal P w K mg base 1 "may_follow" [] (spF C 4 f) := by
  refine cal_of0 (ps := ["first", "second", "row", "place"]) D scmay_follow rfl (fun _ _ _ _ _ _ us hl => match us, hl with | [_, _, _, _], _ => rfl) (rdmay_follow K C ) (inmay_follow K C ) hf fun f cdv A outer s H E hr => ?_
  exact (pss_cons (ps_set (i := 4) scmay_follow.nd rfl (by first | exact Or.inl rfl | exact Or.inr rfl) (pe_callB cr_lenQ (by rfl) T.n_len PySem.boot_len (pa_cons (pv 2) pa_nil))) (pss_cons (ps_if (pw_or (pt_cmpR op_in_seq (pv 3) (pv 2) (by rfl)) (pw_or1 (pt_cmpR op_ne (pe_callB cr_lenQ (by rfl) T.n_len PySem.boot_len (pa_cons (pe_ix ix_list (pv 0) (pv 4) (fun _ _ => rfl)) pa_nil)) (pe_callB cr_lenQ (by rfl) T.n_len PySem.boot_len (pa_cons (pe_ix ix_list (pv 1) (pv 3) (fun _ _ => rfl)) pa_nil)) (nomark _)))).pt (pss_cons (ps_ret pe_bl) pss_nil) pss_nil) (pss_cons (ps_if (pt_cmpR op_ne (pe_cmpR op_in_seq (pv 4) (pe_ix ix_list (pv 0) (pv 4) (fun _ _ => rfl)) (by rfl)) (pe_cmpR op_in_seq (pv 3) (pe_ix ix_list (pv 1) (pv 3) (fun _ _ => rfl)) (by rfl)) (nomark _)) (pss_cons (ps_ret pe_bl) pss_nil) pss_nil) (pss_cons (ps_for (passes_of rfl) rfl (pi_enum (by rfl) T.n_enumerate (pa_cons (pv 2) pa_nil)) (pg_tup rfl (pgs_cons (pg_name (i := 5) scmay_follow.nd rfl (by first | exact Or.inl rfl | exact Or.inr rfl)) (pgs_cons (pg_name (i := 6) scmay_follow.nd rfl (by first | exact Or.inl rfl | exact Or.inr rfl)) pgs_nil))) (pss_cons (ps_if (pt_cmpR op_ne (pe_cmpR op_in_seq (pv 5) (pe_ix ix_list (pv 0) (pv 4) (fun _ _ => rfl)) (by rfl)) (pe_cmpR op_in_seq (pv 6) (pe_ix ix_list (pv 1) (pv 3) (fun _ _ => rfl)) (by rfl)) (nomark _)) (pss_cons (ps_ret pe_bl) pss_nil) pss_nil) pss_nil)) (pss_cons (ps_ret pe_bl) pss_nil)))))
/-! completed -/
abbrev rdcompleted (K : PySem.W.Frag) (C : Addr) (f_completed : PF) (f_may_follow : PF) : TS := (tSeq (tIfS (tTest (tOp rEq (tCB (rLenQ K) (tCons (tVar 2) tNil)) (tCB (rLenQ K) (tCons (tVar 0) tNil)))) (tSeq (tRet (tCB (rTupQ K) (tCons (tVar 2) tNil))) tNext) tNext) (tSeq (tFor (iRng1 (tCons (tCB (rLenQ K) (tCons (tVar 1) tNil)) tNil)) (gName 3) (tSeq (tIfS (tB (tCall (spF C 4 f_may_follow) [] E0 (tCons (tVar 0) (tCons (tVar 1) (tCons (tVar 2) (tCons (tVar 3) tNil)))))) (tSeq (tAsg (tCall (spF C 3 f_completed) [] E0 (tCons (tVar 0) (tCons (tVar 1) (tCons (tOp rCat (tVar 2) (tLst (tCons (tVar 3) tNil))) tNil)))) (gName 4)) (tSeq (tIfS (tTest (tOp rNotN (tVar 4) (tC .non))) (tSeq (tRet (tVar 4)) tNext) tNext) tNext)) tNext) tNext)) (tSeq (tRet (tC .non)) tNext)))
def incompleted (K : PySem.W.Frag) (C : Addr) (f_completed : PF) (f_may_follow : PF) : RS C E0 (rdcompleted K C f_completed f_may_follow) := inferInstance
def Fcompleted (K : PySem.W.Frag) (C : Addr) (f_completed : PF) (f_may_follow : PF) : PF := fun ds => outF0 ((incompleted K C f_completed f_may_follow).run (startA 5 ds))
abbrev Ncompleted : List Str := ["first", "second", "row", "place", "found"]
theorem sccompleted : FnScope Ncompleted ["first", "second", "row"] (defScope (K16.top 35)) := ⟨rfl, rfl, rfl, by decide +kernel, rfl, by decide +kernel, by decide +kernel⟩
theorem okcompleted {k : Nat} (hk : 1 ≤ k) {f_completed : PF} {f_may_follow : PF} {f : PF} (T : Tx mg) (D : DefAt K mg (K16.top 35) "completed" []) (c_completed : Cal P w K mg base k "completed" [] (spF C 3 f_completed)) (c_may_follow : Cal P w K mg base 1 "may_follow" [] (spF C 4 f_may_follow)) (hf : ∀ ds, ds.length = 3 → Ref (f ds) (Fcompleted K C f_completed f_may_follow ds)) : Cal P w K mg base (k + 1) "completed" [] (spF C 3 f) := by
  refine cal_of0 (ps := ["first", "second", "row"]) D sccompleted rfl (fun _ _ _ _ _ _ us hl => match us, hl with | [_, _, _], _ => rfl) (rdcompleted K C f_completed f_may_follow) (incompleted K C f_completed f_may_follow) hf fun f cdv A outer s H E hr => ?_
  exact (pss_cons (ps_if (pt_cmpR op_eq (pe_callB cr_lenQ (by rfl) T.n_len PySem.boot_len (pa_cons (pv 2) pa_nil)) (pe_callB cr_lenQ (by rfl) T.n_len PySem.boot_len (pa_cons (pv 0) pa_nil)) (nomark _)) (pss_cons (ps_ret (pe_callTy cr_tupQ (by rfl) T.n_tuple (by decide +kernel) (pa_cons (pv 2) pa_nil))) pss_nil) pss_nil) (pss_cons (ps_for (passes_of rfl) rfl (pi_range1 (by rfl) T.n_range (pa_cons (pe_callB cr_lenQ (by rfl) T.n_len PySem.boot_len (pa_cons (pv 1) pa_nil)) pa_nil)) (pg_name (i := 3) sccompleted.nd rfl (by first | exact Or.inl rfl | exact Or.inr rfl)) (pss_cons (ps_if (pt_val (pe_cal c_may_follow (hr.mono hk) passL (pa_cons (pv 0) (pa_cons (pv 1) (pa_cons (pv 2) (pa_cons (pv 3) pa_nil)))))) (pss_cons (ps_set (i := 4) sccompleted.nd rfl (by first | exact Or.inl rfl | exact Or.inr rfl) (pe_cal c_completed hr passL (pa_cons (pv 0) (pa_cons (pv 1) (pa_cons (pe_op op_cat (pv 2) (pe_lst (pa_cons (pv 3) pa_nil))) pa_nil))))) (pss_cons (ps_if (pt_cmpR op_notN2 (pv 4) pe_non (nomark _)) (pss_cons (ps_ret (pv 4)) pss_nil) pss_nil) pss_nil)) pss_nil) pss_nil)) (pss_cons (ps_ret pe_non) pss_nil)))
/-! find_renaming -/
abbrev rdfind_renaming (K : PySem.W.Frag) (C : Addr) (f_completed : PF) (f_neighbour_rows : PF) : TS := (tSeq (tIfS (tTest (tOp rNe (tOp (rIxT K) (tVar 0) (tC (.int 0))) (tOp (rIxT K) (tVar 1) (tC (.int 0))))) (tSeq (tRet (tC .non)) tNext) tNext) (tSeq (tIfS (tTest (tOp (rI0 fun i j => .bl (decide (j < i))) (tOp (rIxT K) (tVar 0) (tC (.int 0))) (tC (.int 9)))) (tSeq tNever tNext) tNext) (tSeq (tIfS (tTest (tOp rNe (tCB (rLenQ K) (tCons (tOp (rIxT K) (tVar 0) (tC (.int 1))) tNil)) (tCB (rLenQ K) (tCons (tOp (rIxT K) (tVar 1) (tC (.int 1))) tNil)))) (tSeq (tRet (tC .non)) tNext) tNext) (tSeq (tRet (tCall (spF C 3 f_completed) [] E0 (tCons (tCall (spF C 1 f_neighbour_rows) [] E0 (tCons (tVar 0) tNil)) (tCons (tCall (spF C 1 f_neighbour_rows) [] E0 (tCons (tVar 1) tNil)) (tCons (tLst tNil) tNil))))) tNext))))
def infind_renaming (K : PySem.W.Frag) (C : Addr) (f_completed : PF) (f_neighbour_rows : PF) : RS C E0 (rdfind_renaming K C f_completed f_neighbour_rows) := inferInstance
def Ffind_renaming (K : PySem.W.Frag) (C : Addr) (f_completed : PF) (f_neighbour_rows : PF) : PF := fun ds => outF0 ((infind_renaming K C f_completed f_neighbour_rows).run (startA 2 ds))
abbrev Nfind_renaming : List Str := ["a", "b"]
theorem scfind_renaming : FnScope Nfind_renaming ["a", "b"] (defScope (K16.top 36)) := ⟨rfl, rfl, rfl, by decide +kernel, rfl, by decide +kernel, by decide +kernel⟩
theorem okfind_renaming {f_completed : PF} {f_neighbour_rows : PF} {f : PF} (T : Tx mg) (D : DefAt K mg (K16.top 36) "find_renaming" []) (c_completed : Cal P w K mg base 12 "completed" [] (spF C 3 f_completed)) (c_neighbour_rows : Cal P w K mg base 1 "neighbour_rows" [] (spF C 1 f_neighbour_rows)) (hf : ∀ ds, ds.length = 2 → Ref (f ds) (Ffind_renaming K C f_completed f_neighbour_rows ds)) : Cal P w K mg base 30 "find_renaming" [] (spF C 2 f) := by
  refine cal_of0 (ps := ["a", "b"]) D scfind_renaming rfl (fun _ _ _ _ _ _ us hl => match us, hl with | [_, _], _ => rfl) (rdfind_renaming K C f_completed f_neighbour_rows) (infind_renaming K C f_completed f_neighbour_rows) hf fun f cdv A outer s H E hr => ?_
  exact (pss_cons (ps_if (pt_cmpR op_ne (pe_ix ix_tup (pv 0) pe_int (fun _ _ => rfl)) (pe_ix ix_tup (pv 1) pe_int (fun _ _ => rfl)) (nomark _)) (pss_cons (ps_ret pe_non) pss_nil) pss_nil) (pss_cons (ps_if (pt_cmpR op_gt (pe_ix ix_tup (pv 0) pe_int (fun _ _ => rfl)) (pe_gl T.c_MAX_RENAMED) (nomark _)) (pss_cons ps_never pss_nil) pss_nil) (pss_cons (ps_if (pt_cmpR op_ne (pe_callB cr_lenQ (by rfl) T.n_len PySem.boot_len (pa_cons (pe_ix ix_tup (pv 0) pe_int (fun _ _ => rfl)) pa_nil)) (pe_callB cr_lenQ (by rfl) T.n_len PySem.boot_len (pa_cons (pe_ix ix_tup (pv 1) pe_int (fun _ _ => rfl)) pa_nil)) (nomark _)) (pss_cons (ps_ret pe_non) pss_nil) pss_nil) (pss_cons (ps_ret (pe_cal c_completed (hr.mono (by decide)) passL (pa_cons (pe_cal c_neighbour_rows (hr.mono (by decide)) passL (pa_cons (pv 0) pa_nil)) (pa_cons (pe_cal c_neighbour_rows (hr.mono (by decide)) passL (pa_cons (pv 1) pa_nil)) (pa_cons (pe_lst pa_nil) pa_nil))))) pss_nil))))
/-! hom_profile -/
abbrev rdhom_profile (K : PySem.W.Frag) (C : Addr) (E : XK) (f_catalogue : PF) (f_count_maps : PF) (f_count_homs : PF) : TS := (tSeq (tAsg (tCallN 1 1 (spF C 2 f_catalogue) (fun vs zs => vs ++ zs) (EC C E) (tCons (tVar 1) tNil) (tCons (tVar 2) tNil)) (gName 3)) (tSeq (tDrop (tCall (spF C 3 f_count_maps) [] (EC C E) (tCons (tVar 1) (tCons (tOp (rIxT K) (tVar 0) (tC (.int 0))) (tCons (tC (.int 4096)) tNil))))) (tSeq (tRet (tLc (iList K (tVar 3)) (gName 4) tYes (tCall (spF C 2 f_count_homs) [] E0 (tCons (tVar 4) (tCons (tVar 0) tNil))) [4])) tNext)))
def inhom_profile (K : PySem.W.Frag) (C : Addr) (E : XK) (f_catalogue : PF) (f_count_maps : PF) (f_count_homs : PF) : RS C E (rdhom_profile K C E f_catalogue f_count_maps f_count_homs) := inferInstance
def Fhom_profile (K : PySem.W.Frag) (C : Addr) (E : XK) (f_catalogue : PF) (f_count_maps : PF) (f_count_homs : PF) : PF := fun ds => outF ((inhom_profile K C E f_catalogue f_count_maps f_count_homs).run (startA 5 ds))
abbrev Nhom_profile : List Str := ["a", "limit", "loops", "webs", "x"]
theorem schom_profile : FnScope Nhom_profile ["a", "limit", "loops"] (defScope (K16.top 40)) := ⟨rfl, rfl, rfl, by decide +kernel, rfl, by decide +kernel, by decide +kernel⟩
/-! telling_web -/
abbrev rdtelling_web (K : PySem.W.Frag) (C : Addr) (E : XK) (f_first_loop : PF) (f_find_renaming : PF) (f_catalogue : PF) (f_count_homs : PF) : TS := (tSeq (tAsg (tOrV (tOp rNotN (tCall (spF C 1 f_first_loop) [] (EC C E) (tCons (tVar 0) tNil)) (tC .non)) (tOp rNotN (tCall (spF C 1 f_first_loop) [] (EC C E) (tCons (tVar 1) tNil)) (tC .non))) (gName 2)) (tSeq (tAsg (tIf (tB (tVar 2)) (tC (.int 3)) (tC (.int 4))) (gName 3)) (tSeq (tAsg (tCB rMax2 (tCons (tOp (rIxT K) (tVar 0) (tC (.int 0))) (tCons (tOp (rIxT K) (tVar 1) (tC (.int 0))) tNil))) (gName 4)) (tSeq (tIfS (tTest (tOp (rI0 fun i j => .bl (decide (j < i))) (tVar 4) (tVar 3))) (tSeq (tRaiseTL C (WC E) (tCons (tVar 3) tNil)) tNext) tNext) (tSeq (tIfS (tTest (tOp rNotN (tCall (spF C 2 f_find_renaming) [] (EC C E) (tCons (tVar 0) (tCons (tVar 1) tNil))) (tC .non))) (tSeq (tRet (tC .non)) tNext) tNext) (tSeq (tFor (iList K (tCallN 1 1 (spF C 2 f_catalogue) (fun vs zs => vs ++ zs) (EC C E) (tCons (tVar 4) tNil) (tCons (tVar 2) tNil))) (gName 5) (tSeq (tAsg (tCall (spF C 2 f_count_homs) [] (EC C E) (tCons (tVar 5) (tCons (tVar 0) tNil))) (gName 6)) (tSeq (tAsg (tCall (spF C 2 f_count_homs) [] (EC C E) (tCons (tVar 5) (tCons (tVar 1) tNil))) (gName 7)) (tSeq (tIfS (tTest (tOp rNe (tVar 6) (tVar 7))) (tSeq (tRet (tTup (tCons (tVar 5) (tCons (tVar 6) (tCons (tVar 7) tNil))))) tNext) tNext) tNext)))) (tSeq (tRet (tC .non)) tNext)))))))
def intelling_web (K : PySem.W.Frag) (C : Addr) (E : XK) (f_first_loop : PF) (f_find_renaming : PF) (f_catalogue : PF) (f_count_homs : PF) : RS C E (rdtelling_web K C E f_first_loop f_find_renaming f_catalogue f_count_homs) := inferInstance
def Ftelling_web (K : PySem.W.Frag) (C : Addr) (E : XK) (f_first_loop : PF) (f_find_renaming : PF) (f_catalogue : PF) (f_count_homs : PF) : PF := fun ds => outF ((intelling_web K C E f_first_loop f_find_renaming f_catalogue f_count_homs).run (startA 8 ds))
abbrev Ntelling_web : List Str := ["a", "b", "loops", "most", "limit", "x", "first", "second"]
theorem sctelling_web : FnScope Ntelling_web ["a", "b"] (defScope (K16.top 41)) := ⟨rfl, rfl, rfl, by decide +kernel, rfl, by decide +kernel, by decide +kernel⟩
theorem oktelling_web {f_first_loop : PF} {f_find_renaming : PF} {f_catalogue : PF} {f_count_homs : PF} {f : PF} (T : Tx mg) (TL : TLTxt P K mg C fI) (D : DefAt K mg (K16.top 41) "telling_web" []) (c_first_loop : Cal P w K mg base 1 "first_loop" [] (spF C 1 f_first_loop)) (c_find_renaming : Cal P w K mg base 30 "find_renaming" [] (spF C 2 f_find_renaming)) (d_catalogue : Cal P w K mg base 10 "catalogue" [.bl false] (spF C 2 f_catalogue)) (c_catalogue : CalN P w K mg base 10 "catalogue" 1 ["loops"] (spF C 2 f_catalogue)) (c_count_homs : Cal P w K mg base 6 "count_homs" [] (spF C 2 f_count_homs)) (hf : ∀ E ds, ds.length = 2 → Ref (f ds) (Ftelling_web K C E f_first_loop f_find_renaming f_catalogue f_count_homs ds)) : Cal P w K mg base 32 "telling_web" [] (spF C 2 f) := by
  refine cal_ofE (ps := ["a", "b"]) D sctelling_web rfl (fun _ _ _ _ _ _ us hl => match us, hl with | [_, _], _ => rfl) (fun E => rdtelling_web K C E f_first_loop f_find_renaming f_catalogue f_count_homs) (fun E => intelling_web K C E f_first_loop f_find_renaming f_catalogue f_count_homs) hf fun f cdv A outer s H E hr => ?_
  exact (pss_cons (ps_set (i := 2) sctelling_web.nd rfl (by first | exact Or.inl rfl | exact Or.inr rfl) (pe_or (pe_cmpR op_notN2 (pe_cal c_first_loop (hr.mono (by decide)) (passE rfl rfl rfl rfl) (pa_cons (pv 0) pa_nil)) pe_non (nomark _)) (pe_one (pe_cmpR op_notN2 (pe_cal c_first_loop (hr.mono (by decide)) (passE rfl rfl rfl rfl) (pa_cons (pv 1) pa_nil)) pe_non (nomark _))))) (pss_cons (ps_set (i := 3) sctelling_web.nd rfl (by first | exact Or.inl rfl | exact Or.inr rfl) (pe_ifExp (pt_val (pv 2)) (pe_gl T.c_MAX_TOLD_WITH_LOOPS) (pe_gl T.c_MAX_TOLD))) (pss_cons (ps_set (i := 4) sctelling_web.nd rfl (by first | exact Or.inl rfl | exact Or.inr rfl) (pe_callB (cr_max2 (by rfl)) (by rfl) T.n_max boot_max (pa_cons (pe_ix ix_tup (pv 0) pe_int (fun _ _ => rfl)) (pa_cons (pe_ix ix_tup (pv 1) pe_int (fun _ _ => rfl)) pa_nil)))) (pss_cons (ps_if (pt_cmpR op_gt (pv 4) (pv 3) (nomark _)) (pss_cons (ps_raiseTL rfl TL hr (takes_of rfl rfl rfl rfl) (pa_cons (pv 3) pa_nil)) pss_nil) pss_nil) (pss_cons (ps_if (pt_cmpR op_notN2 (pe_cal c_find_renaming (hr.mono (by decide)) (passE rfl rfl rfl rfl) (pa_cons (pv 0) (pa_cons (pv 1) pa_nil))) pe_non (nomark _)) (pss_cons (ps_ret pe_non) pss_nil) pss_nil) (pss_cons (ps_for (passes_of rfl) rfl (pi_list (pe_calN c_catalogue (hr.mono (by decide)) (passE rfl rfl rfl rfl) (pa_cons (pv 4) pa_nil) (pk_cons (pv 2) pk_nil))) (pg_name (i := 5) sctelling_web.nd rfl (by first | exact Or.inl rfl | exact Or.inr rfl)) (pss_cons (ps_set (i := 6) sctelling_web.nd rfl (by first | exact Or.inl rfl | exact Or.inr rfl) (pe_cal c_count_homs (hr.mono (by decide)) (passE rfl rfl rfl rfl) (pa_cons (pv 5) (pa_cons (pv 0) pa_nil)))) (pss_cons (ps_set (i := 7) sctelling_web.nd rfl (by first | exact Or.inl rfl | exact Or.inr rfl) (pe_cal c_count_homs (hr.mono (by decide)) (passE rfl rfl rfl rfl) (pa_cons (pv 5) (pa_cons (pv 1) pa_nil)))) (pss_cons (ps_if (pt_cmpR op_ne (pv 6) (pv 7) (nomark _)) (pss_cons (ps_ret (pe_tup (pa_cons (pv 5) (pa_cons (pv 6) (pa_cons (pv 7) pa_nil))))) pss_nil) pss_nil) pss_nil)))) (pss_cons (ps_ret pe_non) pss_nil)))))))
end
end DL
end
section
set_option Elab.async false
set_option linter.all false
set_option maxRecDepth 100000
set_option maxHeartbeats 4000000
/-! RIX: an item of a list or a tuple. -/
namespace DL
open PySem L2 GX
instance roIx {K : PySem.W.Frag} : RO (rIx K) where
  run d1 d2 := match d1, d2 with
    | .list ds, .int i => ixD ds i
    | .tuple ds, .int i => ixD ds i
    | _, _ => none
  sd d1 d2 d h := by
    split at h
    · unfold ixD at h
      split at h
      · exact fun G H x y e h1 h2 Q q => .inl (opd_ixL h G H x y e h1 h2 Q q)
      · cases h
    · unfold ixD at h
      split at h
      · exact fun G H x y e h1 h2 Q q => .inr (.inl (opd_ixT h G H x y e h1 h2 Q q))
      · cases h
    · cases h
end DL
end
section
set_option Elab.async false
set_option linter.all false
set_option warn.classDefReducibility false
set_option synthInstance.maxSize 1000000
set_option synthInstance.maxHeartbeats 4000000
set_option maxRecDepth 100000
set_option maxHeartbeats 4000000
/-! DEFn: the defs of the text, each with its reading, what it computes and its promise. Printed by gen.py. -/
namespace DL
open PySem L2 GX PyProof.Rows TLX

section
variable {P : Program} {w : World} {K : PySem.W.Frag} {mg : Str → Option Value} {base : Heap} {C fI : Addr}

/-! _law_cell -/
abbrev rdlaw_cell (K : PySem.W.Frag) (C : Addr)  : TS := (tSeq (tIfS (tTest (tOp (rI0 fun i j => .bl (decide (i < j))) (tVar 1) (tCB (rLenQ K) (tCons (tVar 0) tNil)))) (tSeq (tRet (tCB rAbs1 (tCons (tCB rInt1 (tCons (tOp (rIxL K) (tVar 0) (tVar 1)) tNil)) tNil))) tNext) tNext) (tSeq (tRet (tC (.int 0))) tNext))
def inlaw_cell (K : PySem.W.Frag) (C : Addr)  : RS C E0 (rdlaw_cell K C ) := inferInstance
def Flaw_cell (K : PySem.W.Frag) (C : Addr)  : PF := fun ds => outF0 ((inlaw_cell K C ).run (startA 2 ds))
abbrev Nlaw_cell : List Str := ["_law_script", "_law_place"]
theorem sclaw_cell : FnScope Nlaw_cell ["_law_script", "_law_place"] (defScope (K16.top 43)) := ⟨rfl, rfl, rfl, by decide +kernel, rfl, by decide +kernel, by decide +kernel⟩
theorem oklaw_cell  {f : PF} (T : Tx mg) (D : DefAt K mg (K16.top 43) "_law_cell" [])  (hf : ∀ ds, ds.length = 2 → Ref (f ds) (Flaw_cell K C  ds)) : Cal P w K mg base 1 "_law_cell" [] (spF C 2 f) := by
  refine cal_of0 (ps := ["_law_script", "_law_place"]) D sclaw_cell rfl (fun _ _ _ _ _ _ us hl => match us, hl with | [_, _], _ => rfl) (rdlaw_cell K C ) (inlaw_cell K C ) hf fun f cdv A outer s H E hr => ?_
  exact (pss_cons (ps_if (pt_cmpR op_lt (pv 1) (pe_callB cr_lenQ (by rfl) T.n_len PySem.boot_len (pa_cons (pv 0) pa_nil)) (nomark _)) (pss_cons (ps_ret (pe_callB cr_abs1 (by rfl) T.n_abs (by decide +kernel) (pa_cons (pe_callTy cr_int1 (by rfl) T.n_int (by decide +kernel) (pa_cons (pe_ix ix_list (pv 0) (pv 1) (fun _ _ => rfl)) pa_nil)) pa_nil))) pss_nil) pss_nil) (pss_cons (ps_ret pe_int) pss_nil))
/-! _law_draws -/
abbrev rdlaw_draws (K : PySem.W.Frag) (C : Addr) (f__law_cell : PF) : TS := (tSeq (tAsg (tCall (spF C 2 f__law_cell) [] E0 (tCons (tVar 0) (tCons (tVar 1) tNil))) (gName 4)) (tSeq (tOwn tNil 5) (tSeq (tIfS (tTest (tOp (rI0 fun i j => .bl (decide (j ≤ i))) (tVar 4) (tOp (rI CPow fun i j => .int (i ^ j.toNat)) (tC (.int 10)) (tC (.int 18))))) (tSeq (tAsg (tOp (rI0 fun i j => .int (i - j)) (tVar 4) (tOp (rI CPow fun i j => .int (i ^ j.toNat)) (tC (.int 10)) (tC (.int 18)))) (gName 4)) (tSeq (tFor (iRng1 (tCons (tVar 2) tNil)) (gName 6) (tSeq (tDrop (tBM K "list" rAppend (tVar 5) (tCons (tOp (rI (fun _ j => 0 < j) fun i j => .int (i % j)) (tCB rInt1 (tCons (tVar 4) tNil)) (tVar 3)) tNil))) (tSeq (tAsg (tOp (rI CDiv fun i j => .int (i / j)) (tVar 4) (tVar 3)) (gName 4)) tNext))) (tSeq (tRet (tVar 5)) tNext))) tNext) (tSeq (tFor (iRng1 (tCons (tVar 2) tNil)) (gName 6) (tSeq (tAsg (tOp (rI (fun _ j => 0 < j) fun i j => .int (i % j)) (tCB rInt1 (tCons (tOp (rI0 fun i j => .int (i + j)) (tOp (rI0 fun i j => .int (i + j)) (tOp (rI CMul fun i j => .int (i * j)) (tVar 4) (tC (.int 48271))) (tOp (rI CMul fun i j => .int (i * j)) (tOp (rI0 fun i j => .int (i + j)) (tVar 6) (tC (.int 1))) (tC (.int 69621)))) (tC (.int 17))) tNil)) (tC (.int 2147483647))) (gName 7)) (tSeq (tAsg (tOp (rI (fun _ j => 0 < j) fun i j => .int (i % j)) (tCB rInt1 (tCons (tOp (rI0 fun i j => .int (i + j)) (tOp (rI0 fun i j => .int (i + j)) (tOp (rI CMul fun i j => .int (i * j)) (tVar 7) (tVar 7)) (tOp (rI CMul fun i j => .int (i * j)) (tVar 4) (tOp (rI0 fun i j => .int (i + j)) (tVar 6) (tC (.int 3))))) (tC (.int 12345))) tNil)) (tC (.int 1000003))) (gName 7)) (tSeq (tDrop (tBM K "list" rAppend (tVar 5) (tCons (tOp (rI (fun _ j => 0 < j) fun i j => .int (i % j)) (tCB rInt1 (tCons (tOp (rI CDiv fun i j => .int (i / j)) (tVar 7) (tC (.int 7))) tNil)) (tVar 3)) tNil))) tNext)))) (tSeq (tRet (tVar 5)) tNext)))))
def inlaw_draws (K : PySem.W.Frag) (C : Addr) (f__law_cell : PF) : RS C E0 (rdlaw_draws K C f__law_cell) := inferInstance
def Flaw_draws (K : PySem.W.Frag) (C : Addr) (f__law_cell : PF) : PF := fun ds => outF0 ((inlaw_draws K C f__law_cell).run (startA 8 ds))
abbrev Nlaw_draws : List Str := ["_law_script", "_law_place", "_law_count_here", "_law_base", "_law_cell_here", "_law_row", "_law_k", "_law_mixed"]
theorem sclaw_draws : FnScope Nlaw_draws ["_law_script", "_law_place", "_law_count_here", "_law_base"] (defScope (K16.top 44)) := ⟨rfl, rfl, rfl, by decide +kernel, rfl, by decide +kernel, by decide +kernel⟩
theorem oklaw_draws {f__law_cell : PF} {f : PF} (T : Tx mg) (D : DefAt K mg (K16.top 44) "_law_draws" []) (c__law_cell : Cal P w K mg base 1 "_law_cell" [] (spF C 2 f__law_cell)) (hf : ∀ ds, ds.length = 4 → Ref (f ds) (Flaw_draws K C f__law_cell ds)) : Cal P w K mg base 2 "_law_draws" [] (spF C 4 f) := by
  refine cal_of0 (ps := ["_law_script", "_law_place", "_law_count_here", "_law_base"]) D sclaw_draws rfl (fun _ _ _ _ _ _ us hl => match us, hl with | [_, _, _, _], _ => rfl) (rdlaw_draws K C f__law_cell) (inlaw_draws K C f__law_cell) hf fun f cdv A outer s H E hr => ?_
  exact (pss_cons (ps_set (i := 4) sclaw_draws.nd rfl (by first | exact Or.inl rfl | exact Or.inr rfl) (pe_cal c__law_cell (hr.mono (by decide)) passL (pa_cons (pv 0) (pa_cons (pv 1) pa_nil)))) (pss_cons (ps_set (i := 5) sclaw_draws.nd rfl (by first | exact Or.inl rfl | exact Or.inr rfl) (pe_lst pa_nil)) (pss_cons (ps_if (pt_cmpR op_ge (pv 4) (pe_op op_pow pe_int pe_int) (nomark _)) (pss_cons (ps_set (i := 4) sclaw_draws.nd rfl (by first | exact Or.inl rfl | exact Or.inr rfl) (pe_op op_sub (pv 4) (pe_op op_pow pe_int pe_int))) (pss_cons (ps_for (passes_of rfl) rfl (pi_range1 (by rfl) T.n_range (pa_cons (pv 2) pa_nil)) (pg_name (i := 6) sclaw_draws.nd rfl (by first | exact Or.inl rfl | exact Or.inr rfl)) (pss_cons (ps_expr (pe_bm PySem.F.plainAttrs_list PySem.F.slot_list_append PySem.F.type_list_append mt_append (pv 5) (pa_cons (pe_op op_mod (pe_callTy cr_int1 (by rfl) T.n_int (by decide +kernel) (pa_cons (pv 4) pa_nil)) (pv 3)) pa_nil))) (pss_cons (ps_set (i := 4) sclaw_draws.nd rfl (by first | exact Or.inl rfl | exact Or.inr rfl) (pe_op op_fdiv (pv 4) (pv 3))) pss_nil))) (pss_cons (ps_ret (pv 5)) pss_nil))) pss_nil) (pss_cons (ps_for (passes_of rfl) rfl (pi_range1 (by rfl) T.n_range (pa_cons (pv 2) pa_nil)) (pg_name (i := 6) sclaw_draws.nd rfl (by first | exact Or.inl rfl | exact Or.inr rfl)) (pss_cons (ps_set (i := 7) sclaw_draws.nd rfl (by first | exact Or.inl rfl | exact Or.inr rfl) (pe_op op_mod (pe_callTy cr_int1 (by rfl) T.n_int (by decide +kernel) (pa_cons (pe_op op_add (pe_op op_add (pe_op op_mul (pv 4) pe_int) (pe_op op_mul (pe_op op_add (pv 6) pe_int) pe_int)) pe_int) pa_nil)) pe_int)) (pss_cons (ps_set (i := 7) sclaw_draws.nd rfl (by first | exact Or.inl rfl | exact Or.inr rfl) (pe_op op_mod (pe_callTy cr_int1 (by rfl) T.n_int (by decide +kernel) (pa_cons (pe_op op_add (pe_op op_add (pe_op op_mul (pv 7) (pv 7)) (pe_op op_mul (pv 4) (pe_op op_add (pv 6) pe_int))) pe_int) pa_nil)) pe_int)) (pss_cons (ps_expr (pe_bm PySem.F.plainAttrs_list PySem.F.slot_list_append PySem.F.type_list_append mt_append (pv 5) (pa_cons (pe_op op_mod (pe_callTy cr_int1 (by rfl) T.n_int (by decide +kernel) (pa_cons (pe_op op_fdiv (pv 7) pe_int) pa_nil)) (pv 3)) pa_nil))) pss_nil)))) (pss_cons (ps_ret (pv 5)) pss_nil)))))
/-! _law_same -/
abbrev rdlaw_same (K : PySem.W.Frag) (C : Addr) (f__law_same : PF) : TS := (tSeq (tIfS (tOr (tB (tCB (rIsi K) (tCons (tVar 0) (tCons (tC (.ty "bool")) tNil)))) (tB (tCB (rIsi K) (tCons (tVar 1) (tCons (tC (.ty "bool")) tNil))))) (tSeq (tRet (tAndV (tCB (rIsi K) (tCons (tVar 0) (tCons (tC (.ty "bool")) tNil))) (tAndV (tCB (rIsi K) (tCons (tVar 1) (tCons (tC (.ty "bool")) tNil))) (tOp rEq (tVar 0) (tVar 1))))) tNext) tNext) (tSeq (tIfS (tOr (tTest (tOp rIsN (tVar 0) (tC .non))) (tTest (tOp rIsN (tVar 1) (tC .non)))) (tSeq (tRet (tAndV (tOp rIsN (tVar 0) (tC .non)) (tOp rIsN (tVar 1) (tC .non)))) tNext) tNext) (tSeq (tIfS (tB (tCB (rIsi K) (tCons (tVar 0) (tCons (tC (.ty "int")) tNil)))) (tSeq (tRet (tAndV (tCB (rIsi K) (tCons (tVar 1) (tCons (tC (.ty "int")) tNil))) (tOp rEq (tVar 0) (tVar 1)))) tNext) tNext) (tSeq (tIfS (tB (tCB (rIsi K) (tCons (tVar 0) (tCons (tC (.ty "str")) tNil)))) (tSeq (tRet (tAndV (tCB (rIsi K) (tCons (tVar 1) (tCons (tC (.ty "str")) tNil))) (tOp rEq (tVar 0) (tVar 1)))) tNext) tNext) (tSeq (tIfS (tOr (tTest (tOp rNe (tCB (rIsi K) (tCons (tVar 0) (tCons (tC (.ty "tuple")) tNil))) (tCB (rIsi K) (tCons (tVar 1) (tCons (tC (.ty "tuple")) tNil))))) (tTest (tOp rNe (tCB (rIsi K) (tCons (tVar 0) (tCons (tC (.ty "list")) tNil))) (tCB (rIsi K) (tCons (tVar 1) (tCons (tC (.ty "list")) tNil)))))) (tSeq (tRet (tC (.bl false))) tNext) tNext) (tSeq (tIfS (tAnd (tNot (tB (tCB (rIsi K) (tCons (tVar 0) (tCons (tC (.ty "list")) tNil))))) (tNot (tB (tCB (rIsi K) (tCons (tVar 0) (tCons (tC (.ty "tuple")) tNil)))))) (tSeq (tRet (tC (.bl false))) tNext) tNext) (tSeq (tIfS (tTest (tOp rNe (tCB (rLenQ K) (tCons (tVar 0) tNil)) (tCB (rLenQ K) (tCons (tVar 1) tNil)))) (tSeq (tRet (tC (.bl false))) tNext) tNext) (tSeq (tFor (iRng1 (tCons (tCB (rLenQ K) (tCons (tVar 0) tNil)) tNil)) (gName 2) (tSeq (tIfS (tNot (tB (tCall (spF C 2 f__law_same) [] E0 (tCons (tOp (rIx K) (tVar 0) (tVar 2)) (tCons (tOp (rIx K) (tVar 1) (tVar 2)) tNil))))) (tSeq (tRet (tC (.bl false))) tNext) tNext) tNext)) (tSeq (tRet (tC (.bl true))) tNext)))))))))
def inlaw_same (K : PySem.W.Frag) (C : Addr) (f__law_same : PF) [KitC K "bool"] [KitC K "int"] [KitC K "str"] [KitC K "tuple"] [KitC K "list"] : RS C E0 (rdlaw_same K C f__law_same) := inferInstance
def Flaw_same (K : PySem.W.Frag) (C : Addr) (f__law_same : PF) [KitC K "bool"] [KitC K "int"] [KitC K "str"] [KitC K "tuple"] [KitC K "list"] : PF := fun ds => outF0 ((inlaw_same K C f__law_same).run (startA 3 ds))
abbrev Nlaw_same : List Str := ["_law_first", "_law_second", "_law_k"]
theorem sclaw_same : FnScope Nlaw_same ["_law_first", "_law_second"] (defScope (K16.top 45)) := ⟨rfl, rfl, rfl, by decide +kernel, rfl, by decide +kernel, by decide +kernel⟩
theorem oklaw_same {k : Nat} (hk : 1 ≤ k) {f__law_same : PF} {f : PF} [KitC K "bool"] [KitC K "int"] [KitC K "str"] [KitC K "tuple"] [KitC K "list"] (T : Tx mg) (D : DefAt K mg (K16.top 45) "_law_same" []) (c__law_same : Cal P w K mg base k "_law_same" [] (spF C 2 f__law_same)) (hf : ∀ ds, ds.length = 2 → Ref (f ds) (Flaw_same K C f__law_same ds)) : Cal P w K mg base (k + 1) "_law_same" [] (spF C 2 f) := by
  refine cal_of0 (ps := ["_law_first", "_law_second"]) D sclaw_same rfl (fun _ _ _ _ _ _ us hl => match us, hl with | [_, _], _ => rfl) (rdlaw_same K C f__law_same) (inlaw_same K C f__law_same) hf fun f cdv A outer s H E hr => ?_
  exact (pss_cons (ps_if (pw_or (pt_val (pe_callB call_isi (by rfl) T.n_isinstance boot_isinstance (pa_cons (pv 0) (pa_cons (pe_ty T.n_bool (by decide +kernel)) pa_nil)))) (pw_or1 (pt_val (pe_callB call_isi (by rfl) T.n_isinstance boot_isinstance (pa_cons (pv 1) (pa_cons (pe_ty T.n_bool (by decide +kernel)) pa_nil)))))).pt (pss_cons (ps_ret (pe_and (pe_callB call_isi (by rfl) T.n_isinstance boot_isinstance (pa_cons (pv 0) (pa_cons (pe_ty T.n_bool (by decide +kernel)) pa_nil))) (pe_and (pe_callB call_isi (by rfl) T.n_isinstance boot_isinstance (pa_cons (pv 1) (pa_cons (pe_ty T.n_bool (by decide +kernel)) pa_nil))) (pe_one (pe_cmpR op_eq (pv 0) (pv 1) (nomark _)))))) pss_nil) pss_nil) (pss_cons (ps_if (pw_or (pt_cmpR op_isN2 (pv 0) pe_non (nomark _)) (pw_or1 (pt_cmpR op_isN2 (pv 1) pe_non (nomark _)))).pt (pss_cons (ps_ret (pe_and (pe_cmpR op_isN2 (pv 0) pe_non (nomark _)) (pe_one (pe_cmpR op_isN2 (pv 1) pe_non (nomark _))))) pss_nil) pss_nil) (pss_cons (ps_if (pt_val (pe_callB call_isi (by rfl) T.n_isinstance boot_isinstance (pa_cons (pv 0) (pa_cons (pe_ty T.n_int (by decide +kernel)) pa_nil)))) (pss_cons (ps_ret (pe_and (pe_callB call_isi (by rfl) T.n_isinstance boot_isinstance (pa_cons (pv 1) (pa_cons (pe_ty T.n_int (by decide +kernel)) pa_nil))) (pe_one (pe_cmpR op_eq (pv 0) (pv 1) (nomark _))))) pss_nil) pss_nil) (pss_cons (ps_if (pt_val (pe_callB call_isi (by rfl) T.n_isinstance boot_isinstance (pa_cons (pv 0) (pa_cons (pe_ty T.n_str (by decide +kernel)) pa_nil)))) (pss_cons (ps_ret (pe_and (pe_callB call_isi (by rfl) T.n_isinstance boot_isinstance (pa_cons (pv 1) (pa_cons (pe_ty T.n_str (by decide +kernel)) pa_nil))) (pe_one (pe_cmpR op_eq (pv 0) (pv 1) (nomark _))))) pss_nil) pss_nil) (pss_cons (ps_if (pw_or (pt_cmpR op_ne (pe_callB call_isi (by rfl) T.n_isinstance boot_isinstance (pa_cons (pv 0) (pa_cons (pe_ty T.n_tuple (by decide +kernel)) pa_nil))) (pe_callB call_isi (by rfl) T.n_isinstance boot_isinstance (pa_cons (pv 1) (pa_cons (pe_ty T.n_tuple (by decide +kernel)) pa_nil))) (nomark _)) (pw_or1 (pt_cmpR op_ne (pe_callB call_isi (by rfl) T.n_isinstance boot_isinstance (pa_cons (pv 0) (pa_cons (pe_ty T.n_list (by decide +kernel)) pa_nil))) (pe_callB call_isi (by rfl) T.n_isinstance boot_isinstance (pa_cons (pv 1) (pa_cons (pe_ty T.n_list (by decide +kernel)) pa_nil))) (nomark _)))).pt (pss_cons (ps_ret pe_bl) pss_nil) pss_nil) (pss_cons (ps_if (pw_and (pt_not (pt_val (pe_callB call_isi (by rfl) T.n_isinstance boot_isinstance (pa_cons (pv 0) (pa_cons (pe_ty T.n_list (by decide +kernel)) pa_nil))))) (pw_and1 (pt_not (pt_val (pe_callB call_isi (by rfl) T.n_isinstance boot_isinstance (pa_cons (pv 0) (pa_cons (pe_ty T.n_tuple (by decide +kernel)) pa_nil))))))).pt (pss_cons (ps_ret pe_bl) pss_nil) pss_nil) (pss_cons (ps_if (pt_cmpR op_ne (pe_callB cr_lenQ (by rfl) T.n_len PySem.boot_len (pa_cons (pv 0) pa_nil)) (pe_callB cr_lenQ (by rfl) T.n_len PySem.boot_len (pa_cons (pv 1) pa_nil)) (nomark _)) (pss_cons (ps_ret pe_bl) pss_nil) pss_nil) (pss_cons (ps_for (passes_of rfl) rfl (pi_range1 (by rfl) T.n_range (pa_cons (pe_callB cr_lenQ (by rfl) T.n_len PySem.boot_len (pa_cons (pv 0) pa_nil)) pa_nil)) (pg_name (i := 2) sclaw_same.nd rfl (by first | exact Or.inl rfl | exact Or.inr rfl)) (pss_cons (ps_if (pt_not (pt_val (pe_cal c__law_same hr passL (pa_cons (pe_ix ix_seq (pv 0) (pv 2) (fun _ _ => rfl)) (pa_cons (pe_ix ix_seq (pv 1) (pv 2) (fun _ _ => rfl)) pa_nil))))) (pss_cons (ps_ret pe_bl) pss_nil) pss_nil) pss_nil)) (pss_cons (ps_ret pe_bl) pss_nil)))))))))
/-! _law_web -/
abbrev rdlaw_web (K : PySem.W.Frag) (C : Addr)  : TS := (tSeq (tOwn tNil 3) (tSeq (tAsg (tC (.int 0)) (gName 4)) (tSeq (tFor (iRng1 (tCons (tVar 0) tNil)) (gName 5) (tSeq (tFor (iRng1 (tCons (tOp (rI0 fun i j => .int (i + j)) (tVar 5) (tC (.int 1))) tNil)) (gName 6) (tSeq (tIfS (tOr (tTest (tOp (rI0 fun i j => .bl (decide (i < j))) (tVar 6) (tVar 5))) (tB (tVar 2))) (tSeq (tIfS (tAnd (tTest (tOp (rI0 fun i j => .bl (decide (i < j))) (tVar 4) (tCB (rLenQ K) (tCons (tVar 1) tNil)))) (tTest (tOp rEq (tOp (rIxL K) (tVar 1) (tVar 4)) (tC (.int 1))))) (tSeq (tDrop (tBM K "list" rAppend (tVar 3) (tCons (tTup (tCons (tVar 6) (tCons (tVar 5) tNil))) tNil))) tNext) tNext) (tSeq (tAsg (tOp (rI0 fun i j => .int (i + j)) (tVar 4) (tC (.int 1))) (gName 4)) tNext)) tNext) tNext)) tNext)) (tSeq (tRet (tTup (tCons (tVar 0) (tCons (tCB (rTupQ K) (tCons (tCB (rSortedPO K) (tCons (tVar 3) tNil)) tNil)) tNil)))) tNext))))
def inlaw_web (K : PySem.W.Frag) (C : Addr)  : RS C E0 (rdlaw_web K C ) := inferInstance
def Flaw_web (K : PySem.W.Frag) (C : Addr)  : PF := fun ds => outF0 ((inlaw_web K C ).run (startA 7 ds))
abbrev Nlaw_web : List Str := ["_law_size", "_law_bits", "_law_looped", "_law_edges", "_law_place", "_law_v", "_law_u"]
theorem sclaw_web : FnScope Nlaw_web ["_law_size", "_law_bits", "_law_looped"] (defScope (K16.top 46)) := ⟨rfl, rfl, rfl, by decide +kernel, rfl, by decide +kernel, by decide +kernel⟩
theorem oklaw_web  {f : PF} (T : Tx mg) (D : DefAt K mg (K16.top 46) "_law_web" [])  (hf : ∀ ds, ds.length = 3 → Ref (f ds) (Flaw_web K C  ds)) : Cal P w K mg base 1 "_law_web" [] (spF C 3 f) := by
  refine cal_of0 (ps := ["_law_size", "_law_bits", "_law_looped"]) D sclaw_web rfl (fun _ _ _ _ _ _ us hl => match us, hl with | [_, _, _], _ => rfl) (rdlaw_web K C ) (inlaw_web K C ) hf fun f cdv A outer s H E hr => ?_
  exact (pss_cons (ps_set (i := 3) sclaw_web.nd rfl (by first | exact Or.inl rfl | exact Or.inr rfl) (pe_lst pa_nil)) (pss_cons (ps_set (i := 4) sclaw_web.nd rfl (by first | exact Or.inl rfl | exact Or.inr rfl) pe_int) (pss_cons (ps_for (passes_of rfl) rfl (pi_range1 (by rfl) T.n_range (pa_cons (pv 0) pa_nil)) (pg_name (i := 5) sclaw_web.nd rfl (by first | exact Or.inl rfl | exact Or.inr rfl)) (pss_cons (ps_for (passes_of rfl) rfl (pi_range1 (by rfl) T.n_range (pa_cons (pe_op op_add (pv 5) pe_int) pa_nil)) (pg_name (i := 6) sclaw_web.nd rfl (by first | exact Or.inl rfl | exact Or.inr rfl)) (pss_cons (ps_if (pw_or (pt_cmpR op_lt (pv 6) (pv 5) (nomark _)) (pw_or1 (pt_val (pv 2)))).pt (pss_cons (ps_if (pw_and (pt_cmpR op_lt (pv 4) (pe_callB cr_lenQ (by rfl) T.n_len PySem.boot_len (pa_cons (pv 1) pa_nil)) (nomark _)) (pw_and1 (pt_cmpR op_eq (pe_ix ix_list (pv 1) (pv 4) (fun _ _ => rfl)) pe_int (nomark _)))).pt (pss_cons (ps_expr (pe_bm PySem.F.plainAttrs_list PySem.F.slot_list_append PySem.F.type_list_append mt_append (pv 3) (pa_cons (pe_tup (pa_cons (pv 6) (pa_cons (pv 5) pa_nil))) pa_nil))) pss_nil) pss_nil) (pss_cons (ps_set (i := 4) sclaw_web.nd rfl (by first | exact Or.inl rfl | exact Or.inr rfl) (pe_op op_add (pv 4) pe_int)) pss_nil)) pss_nil) pss_nil)) pss_nil)) (pss_cons (ps_ret (pe_tup (pa_cons (pv 0) (pa_cons (pe_callTy cr_tupQ (by rfl) T.n_tuple (by decide +kernel) (pa_cons (pe_callB cr_sortedPO (by rfl) T.n_sorted boot_sorted (pa_cons (pv 3) pa_nil)) pa_nil)) pa_nil)))) pss_nil))))
/-! _law_matrix -/
abbrev rdlaw_matrix (K : PySem.W.Frag) (C : Addr)  : TS := (tSeq (tAsg (tLc (iRng1 (tCons (tOp (rIxT K) (tVar 0) (tC (.int 0))) tNil)) (gName 3) tYes (tOp rRep (tLst (tCons (tC (.bl false)) tNil)) (tOp (rIxT K) (tVar 0) (tC (.int 0)))) [3]) (gName 1)) (tSeq (tFor (iTup K (tOp (rIxT K) (tVar 0) (tC (.int 1)))) (gName 2) (tSeq (tAsg (tC (.bl true)) (gSub (tOp (rIxL K) (tVar 1) (tOp (rIxT K) (tVar 2) (tC (.int 0)))) (tOp (rIxT K) (tVar 2) (tC (.int 1))) rSetL)) (tSeq (tAsg (tC (.bl true)) (gSub (tOp (rIxL K) (tVar 1) (tOp (rIxT K) (tVar 2) (tC (.int 1)))) (tOp (rIxT K) (tVar 2) (tC (.int 0))) rSetL)) tNext))) (tSeq (tRet (tVar 1)) tNext)))
abbrev Nlaw_matrix : List Str := ["_law_web_here", "_law_rows", "_law_edge", "_law_k"]
theorem sclaw_matrix : FnScope Nlaw_matrix ["_law_web_here"] (defScope (K16.top 47)) := ⟨rfl, rfl, rfl, by decide +kernel, rfl, by decide +kernel, by decide +kernel⟩
theorem bodylaw_matrix (T : Tx mg)  (f : Addr) (cdv : Value) (A : Around) (outer : List Env) (s : Shared) (H : Hp) (E : XK) (hr : Room 0 (A.deeper (envOfC "_law_matrix" (defScope (K16.top 47)) s.heap.objs.size f cdv))) : PSs (cxOf (L2.CX P w) P w K mg base Nlaw_matrix "_law_matrix" (defScope (K16.top 47)) f cdv A outer s H E) (defBody (K16.top 47)) (rdlaw_matrix K C ) := by
  have sclaw_matrix.nd := sclaw_matrix.nd
  let Nlaw_matrix := Nlaw_matrix
  exact (pss_cons (ps_setLc (own := [("_law_k", 3)]) (i := 1) rfl sclaw_matrix.nd rfl rfl (sw_true rfl rfl rfl (by decide +kernel)) (pi_range1 (by rfl) T.n_range (pa_cons (pe_ix ix_tup (pv 0) pe_int (fun _ _ => rfl)) pa_nil)) (blkOk_by (own := [("_law_k", 3)]) (N := Nlaw_matrix) (by kernel_rfl)) (fun _ _ _ _ _ => (pg_name (i := 3) sclaw_matrix.nd rfl (by first | exact Or.inl rfl | exact Or.inr rfl))) (fun _ _ _ _ _ => pts_nil) (fun _ _ _ _ _ => (pe_op op_rep (pe_lst (pa_cons pe_bl pa_nil)) (pe_ix ix_tup (pv 0) pe_int (fun _ _ => rfl))))) (pss_cons (ps_for (passes_of rfl) rfl (pi_tup (pe_ix ix_tup (pv 0) pe_int (fun _ _ => rfl))) (pg_name (i := 2) sclaw_matrix.nd rfl (by first | exact Or.inl rfl | exact Or.inr rfl)) (pss_cons (ps_asg pe_bl (pg_sub (pe_ix ix_list (pv 1) (pe_ix ix_tup (pv 2) pe_int (fun _ _ => rfl)) (fun _ _ => rfl)) (pe_ix ix_tup (pv 2) pe_int (fun _ _ => rfl)) set_list)) (pss_cons (ps_asg pe_bl (pg_sub (pe_ix ix_list (pv 1) (pe_ix ix_tup (pv 2) pe_int (fun _ _ => rfl)) (fun _ _ => rfl)) (pe_ix ix_tup (pv 2) pe_int (fun _ _ => rfl)) set_list)) pss_nil))) (pss_cons (ps_ret (pv 1)) pss_nil)))
/-! _law_shuffle -/
abbrev rdlaw_shuffle (K : PySem.W.Frag) (C : Addr)  : TS := (tSeq (tAsg (tLc (iRng1 (tCons (tCB (rLenQ K) (tCons (tVar 0) tNil)) tNil)) (gName 5) tYes (tVar 5) [5]) (gName 1)) (tSeq (tOwn tNil 2) (tSeq (tFor (iList K (tVar 0)) (gName 3) (tSeq (tAsg (tOp (rI (fun _ j => 0 < j) fun i j => .int (i % j)) (tCB rInt1 (tCons (tVar 3) tNil)) (tCB (rLenQ K) (tCons (tVar 1) tNil))) (gName 4)) (tSeq (tDrop (tBM K "list" rAppend (tVar 2) (tCons (tOp (rIxL K) (tVar 1) (tVar 4)) tNil))) (tSeq (tAsg (tOp rCat (tSl (rSlL K) (tVar 1) tNoPart (tPart (tVar 4))) (tSl (rSlL K) (tVar 1) (tPart (tOp (rI0 fun i j => .int (i + j)) (tVar 4) (tC (.int 1)))) tNoPart)) (gName 1)) tNext)))) (tSeq (tRet (tVar 2)) tNext))))
def inlaw_shuffle (K : PySem.W.Frag) (C : Addr)  : RS C E0 (rdlaw_shuffle K C ) := inferInstance
def Flaw_shuffle (K : PySem.W.Frag) (C : Addr)  : PF := fun ds => outF0 ((inlaw_shuffle K C ).run (startA 6 ds))
abbrev Nlaw_shuffle : List Str := ["_law_draws_here", "_law_left", "_law_row", "_law_draw", "_law_place", "_law_k"]
theorem sclaw_shuffle : FnScope Nlaw_shuffle ["_law_draws_here"] (defScope (K16.top 48)) := ⟨rfl, rfl, rfl, by decide +kernel, rfl, by decide +kernel, by decide +kernel⟩
theorem oklaw_shuffle  {f : PF} (T : Tx mg) (D : DefAt K mg (K16.top 48) "_law_shuffle" [])  (hf : ∀ ds, ds.length = 1 → Ref (f ds) (Flaw_shuffle K C  ds)) : Cal P w K mg base 1 "_law_shuffle" [] (spF C 1 f) := by
  refine cal_of0 (ps := ["_law_draws_here"]) D sclaw_shuffle rfl (fun _ _ _ _ _ _ us hl => match us, hl with | [_], _ => rfl) (rdlaw_shuffle K C ) (inlaw_shuffle K C ) hf fun f cdv A outer s H E hr => ?_
  exact (pss_cons (ps_setLc (own := [("_law_k", 5)]) (i := 1) rfl sclaw_shuffle.nd rfl rfl (sw_true rfl rfl rfl (by decide +kernel)) (pi_range1 (by rfl) T.n_range (pa_cons (pe_callB cr_lenQ (by rfl) T.n_len PySem.boot_len (pa_cons (pv 0) pa_nil)) pa_nil)) (blkOk_by (own := [("_law_k", 5)]) (N := Nlaw_shuffle) (by kernel_rfl)) (fun _ _ _ _ _ => (pg_name (i := 5) sclaw_shuffle.nd rfl (by first | exact Or.inl rfl | exact Or.inr rfl))) (fun _ _ _ _ _ => pts_nil) (fun _ _ _ _ _ => (pv 5))) (pss_cons (ps_set (i := 2) sclaw_shuffle.nd rfl (by first | exact Or.inl rfl | exact Or.inr rfl) (pe_lst pa_nil)) (pss_cons (ps_for (passes_of rfl) rfl (pi_list (pv 0)) (pg_name (i := 3) sclaw_shuffle.nd rfl (by first | exact Or.inl rfl | exact Or.inr rfl)) (pss_cons (ps_set (i := 4) sclaw_shuffle.nd rfl (by first | exact Or.inl rfl | exact Or.inr rfl) (pe_op op_mod (pe_callTy cr_int1 (by rfl) T.n_int (by decide +kernel) (pa_cons (pv 3) pa_nil)) (pe_callB cr_lenQ (by rfl) T.n_len PySem.boot_len (pa_cons (pv 1) pa_nil)))) (pss_cons (ps_expr (pe_bm PySem.F.plainAttrs_list PySem.F.slot_list_append PySem.F.type_list_append mt_append (pv 2) (pa_cons (pe_ix ix_list (pv 1) (pv 4) (fun _ _ => rfl)) pa_nil))) (pss_cons (ps_set (i := 1) sclaw_shuffle.nd rfl (by first | exact Or.inl rfl | exact Or.inr rfl) (pe_op op_cat (pe_slice sl_list (pv 1) po_none (po_some (pv 4))) (pe_slice sl_list (pv 1) (po_some (pe_op op_add (pv 4) pe_int)) po_none))) pss_nil)))) (pss_cons (ps_ret (pv 2)) pss_nil))))
/-! _law_renamed -/
abbrev rdlaw_renamed (K : PySem.W.Frag) (C : Addr)  : TS := (tSeq (tOwn tNil 2) (tSeq (tFor (iTup K (tOp (rIxT K) (tVar 0) (tC (.int 1)))) (gName 3) (tSeq (tAsg (tOp (rIxL K) (tVar 1) (tOp (rIxT K) (tVar 3) (tC (.int 0)))) (gName 4)) (tSeq (tAsg (tOp (rIxL K) (tVar 1) (tOp (rIxT K) (tVar 3) (tC (.int 1)))) (gName 5)) (tSeq (tDrop (tBM K "list" rAppend (tVar 2) (tCons (tTup (tCons (tCB rMin2 (tCons (tVar 4) (tCons (tVar 5) tNil))) (tCons (tCB rMax2 (tCons (tVar 4) (tCons (tVar 5) tNil))) tNil))) tNil))) tNext)))) (tSeq (tRet (tTup (tCons (tOp (rIxT K) (tVar 0) (tC (.int 0))) (tCons (tCB (rTupQ K) (tCons (tCB (rSortedPO K) (tCons (tVar 2) tNil)) tNil)) tNil)))) tNext)))
def inlaw_renamed (K : PySem.W.Frag) (C : Addr)  : RS C E0 (rdlaw_renamed K C ) := inferInstance
def Flaw_renamed (K : PySem.W.Frag) (C : Addr)  : PF := fun ds => outF0 ((inlaw_renamed K C ).run (startA 6 ds))
abbrev Nlaw_renamed : List Str := ["_law_web_here", "_law_row", "_law_edges", "_law_edge", "_law_u", "_law_v"]
theorem sclaw_renamed : FnScope Nlaw_renamed ["_law_web_here", "_law_row"] (defScope (K16.top 49)) := ⟨rfl, rfl, rfl, by decide +kernel, rfl, by decide +kernel, by decide +kernel⟩
theorem oklaw_renamed  {f : PF} (T : Tx mg) (D : DefAt K mg (K16.top 49) "_law_renamed" [])  (hf : ∀ ds, ds.length = 2 → Ref (f ds) (Flaw_renamed K C  ds)) : Cal P w K mg base 1 "_law_renamed" [] (spF C 2 f) := by
  refine cal_of0 (ps := ["_law_web_here", "_law_row"]) D sclaw_renamed rfl (fun _ _ _ _ _ _ us hl => match us, hl with | [_, _], _ => rfl) (rdlaw_renamed K C ) (inlaw_renamed K C ) hf fun f cdv A outer s H E hr => ?_
  exact (pss_cons (ps_set (i := 2) sclaw_renamed.nd rfl (by first | exact Or.inl rfl | exact Or.inr rfl) (pe_lst pa_nil)) (pss_cons (ps_for (passes_of rfl) rfl (pi_tup (pe_ix ix_tup (pv 0) pe_int (fun _ _ => rfl))) (pg_name (i := 3) sclaw_renamed.nd rfl (by first | exact Or.inl rfl | exact Or.inr rfl)) (pss_cons (ps_set (i := 4) sclaw_renamed.nd rfl (by first | exact Or.inl rfl | exact Or.inr rfl) (pe_ix ix_list (pv 1) (pe_ix ix_tup (pv 3) pe_int (fun _ _ => rfl)) (fun _ _ => rfl))) (pss_cons (ps_set (i := 5) sclaw_renamed.nd rfl (by first | exact Or.inl rfl | exact Or.inr rfl) (pe_ix ix_list (pv 1) (pe_ix ix_tup (pv 3) pe_int (fun _ _ => rfl)) (fun _ _ => rfl))) (pss_cons (ps_expr (pe_bm PySem.F.plainAttrs_list PySem.F.slot_list_append PySem.F.type_list_append mt_append (pv 2) (pa_cons (pe_tup (pa_cons (pe_callB (cr_min2 (by rfl)) (by rfl) T.n_min boot_min (pa_cons (pv 4) (pa_cons (pv 5) pa_nil))) (pa_cons (pe_callB (cr_max2 (by rfl)) (by rfl) T.n_max boot_max (pa_cons (pv 4) (pa_cons (pv 5) pa_nil))) pa_nil))) pa_nil))) pss_nil)))) (pss_cons (ps_ret (pe_tup (pa_cons (pe_ix ix_tup (pv 0) pe_int (fun _ _ => rfl)) (pa_cons (pe_callTy cr_tupQ (by rfl) T.n_tuple (by decide +kernel) (pa_cons (pe_callB cr_sortedPO (by rfl) T.n_sorted boot_sorted (pa_cons (pv 2) pa_nil)) pa_nil)) pa_nil)))) pss_nil)))
/-! _law_permutations -/
abbrev rdlaw_permutations (K : PySem.W.Frag) (C : Addr)  : TS := (tSeq (tAsg (tLst (tCons (tLst tNil) tNil)) (gName 1)) (tSeq (tFor (iRng1 (tCons (tVar 0) tNil)) (gName 2) (tSeq (tOwn tNil 3) (tSeq (tFor (iList K (tCB (rListQ K) (tCons (tVar 1) tNil))) (gName 4) (tSeq (tFor (iRng1 (tCons (tVar 0) tNil)) (gName 5) (tSeq (tIfS (tTest (tOp (rIn K true) (tVar 5) (tVar 4))) (tSeq (tDrop (tBM K "list" rAppend (tVar 3) (tCons (tOp rCat (tVar 4) (tLst (tCons (tVar 5) tNil))) tNil))) tNext) tNext) tNext)) tNext)) (tSeq (tAsg (tVar 3) (gName 1)) tNext)))) (tSeq (tRet (tVar 1)) tNext)))
def inlaw_permutations (K : PySem.W.Frag) (C : Addr)  : RS C E0 (rdlaw_permutations K C ) := inferInstance
def Flaw_permutations (K : PySem.W.Frag) (C : Addr)  : PF := fun ds => outF0 ((inlaw_permutations K C ).run (startA 6 ds))
abbrev Nlaw_permutations : List Str := ["_law_size", "_law_rows", "_law_k", "_law_longer", "_law_row", "_law_number"]
theorem sclaw_permutations : FnScope Nlaw_permutations ["_law_size"] (defScope (K16.top 50)) := ⟨rfl, rfl, rfl, by decide +kernel, rfl, by decide +kernel, by decide +kernel⟩
theorem oklaw_permutations  {f : PF} (T : Tx mg) (D : DefAt K mg (K16.top 50) "_law_permutations" [])  (hf : ∀ ds, ds.length = 1 → Ref (f ds) (Flaw_permutations K C  ds)) : Cal P w K mg base 1 "_law_permutations" [] (spF C 1 f) := by
  refine cal_of0 (ps := ["_law_size"]) D sclaw_permutations rfl (fun _ _ _ _ _ _ us hl => match us, hl with | [_], _ => rfl) (rdlaw_permutations K C ) (inlaw_permutations K C ) hf fun f cdv A outer s H E hr => ?_
  exact (pss_cons (ps_set (i := 1) sclaw_permutations.nd rfl (by first | exact Or.inl rfl | exact Or.inr rfl) (pe_lst (pa_cons (pe_lst pa_nil) pa_nil))) (pss_cons (ps_for (passes_of rfl) rfl (pi_range1 (by rfl) T.n_range (pa_cons (pv 0) pa_nil)) (pg_name (i := 2) sclaw_permutations.nd rfl (by first | exact Or.inl rfl | exact Or.inr rfl)) (pss_cons (ps_set (i := 3) sclaw_permutations.nd rfl (by first | exact Or.inl rfl | exact Or.inr rfl) (pe_lst pa_nil)) (pss_cons (ps_for (passes_of rfl) rfl (pi_list (pe_callTy cr_listQ (by rfl) T.n_list (by decide +kernel) (pa_cons (pv 1) pa_nil))) (pg_name (i := 4) sclaw_permutations.nd rfl (by first | exact Or.inl rfl | exact Or.inr rfl)) (pss_cons (ps_for (passes_of rfl) rfl (pi_range1 (by rfl) T.n_range (pa_cons (pv 0) pa_nil)) (pg_name (i := 5) sclaw_permutations.nd rfl (by first | exact Or.inl rfl | exact Or.inr rfl)) (pss_cons (ps_if (pt_cmpR op_notIn_seq (pv 5) (pv 4) (by rfl)) (pss_cons (ps_expr (pe_bm PySem.F.plainAttrs_list PySem.F.slot_list_append PySem.F.type_list_append mt_append (pv 3) (pa_cons (pe_op op_cat (pv 4) (pe_lst (pa_cons (pv 5) pa_nil))) pa_nil))) pss_nil) pss_nil) pss_nil)) pss_nil)) (pss_cons (ps_set (i := 1) sclaw_permutations.nd rfl (by first | exact Or.inl rfl | exact Or.inr rfl) (pv 3)) pss_nil)))) (pss_cons (ps_ret (pv 1)) pss_nil)))
/-! _law_code -/
abbrev rdlaw_code (K : PySem.W.Frag) (C : Addr)  : TS := (tSeq (tAsg (tC (.int 0)) (gName 2)) (tSeq (tFor (iTup K (tOp (rIxT K) (tVar 0) (tC (.int 1)))) (gName 3) (tSeq (tAsg (tCB rMin2 (tCons (tOp (rIxL K) (tVar 1) (tOp (rIxT K) (tVar 3) (tC (.int 0)))) (tCons (tOp (rIxL K) (tVar 1) (tOp (rIxT K) (tVar 3) (tC (.int 1)))) tNil))) (gName 4)) (tSeq (tAsg (tCB rMax2 (tCons (tOp (rIxL K) (tVar 1) (tOp (rIxT K) (tVar 3) (tC (.int 0)))) (tCons (tOp (rIxL K) (tVar 1) (tOp (rIxT K) (tVar 3) (tC (.int 1)))) tNil))) (gName 5)) (tSeq (tAsg (tOp (rI0 fun i j => .int (i + j)) (tVar 2) (tOp (rI CPow fun i j => .int (i * 2 ^ j.toNat)) (tC (.int 1)) (tOp (rI0 fun i j => .int (i + j)) (tOp (rI CDiv fun i j => .int (i / j)) (tOp (rI CMul fun i j => .int (i * j)) (tVar 5) (tOp (rI0 fun i j => .int (i + j)) (tVar 5) (tC (.int 1)))) (tC (.int 2))) (tVar 4)))) (gName 2)) tNext)))) (tSeq (tRet (tVar 2)) tNext)))
def inlaw_code (K : PySem.W.Frag) (C : Addr)  : RS C E0 (rdlaw_code K C ) := inferInstance
def Flaw_code (K : PySem.W.Frag) (C : Addr)  : PF := fun ds => outF0 ((inlaw_code K C ).run (startA 6 ds))
abbrev Nlaw_code : List Str := ["_law_web_here", "_law_row", "_law_code_here", "_law_edge", "_law_low", "_law_high"]
theorem sclaw_code : FnScope Nlaw_code ["_law_web_here", "_law_row"] (defScope (K16.top 51)) := ⟨rfl, rfl, rfl, by decide +kernel, rfl, by decide +kernel, by decide +kernel⟩
theorem oklaw_code  {f : PF} (T : Tx mg) (D : DefAt K mg (K16.top 51) "_law_code" [])  (hf : ∀ ds, ds.length = 2 → Ref (f ds) (Flaw_code K C  ds)) : Cal P w K mg base 1 "_law_code" [] (spF C 2 f) := by
  refine cal_of0 (ps := ["_law_web_here", "_law_row"]) D sclaw_code rfl (fun _ _ _ _ _ _ us hl => match us, hl with | [_, _], _ => rfl) (rdlaw_code K C ) (inlaw_code K C ) hf fun f cdv A outer s H E hr => ?_
  exact (pss_cons (ps_set (i := 2) sclaw_code.nd rfl (by first | exact Or.inl rfl | exact Or.inr rfl) pe_int) (pss_cons (ps_for (passes_of rfl) rfl (pi_tup (pe_ix ix_tup (pv 0) pe_int (fun _ _ => rfl))) (pg_name (i := 3) sclaw_code.nd rfl (by first | exact Or.inl rfl | exact Or.inr rfl)) (pss_cons (ps_set (i := 4) sclaw_code.nd rfl (by first | exact Or.inl rfl | exact Or.inr rfl) (pe_callB (cr_min2 (by rfl)) (by rfl) T.n_min boot_min (pa_cons (pe_ix ix_list (pv 1) (pe_ix ix_tup (pv 3) pe_int (fun _ _ => rfl)) (fun _ _ => rfl)) (pa_cons (pe_ix ix_list (pv 1) (pe_ix ix_tup (pv 3) pe_int (fun _ _ => rfl)) (fun _ _ => rfl)) pa_nil)))) (pss_cons (ps_set (i := 5) sclaw_code.nd rfl (by first | exact Or.inl rfl | exact Or.inr rfl) (pe_callB (cr_max2 (by rfl)) (by rfl) T.n_max boot_max (pa_cons (pe_ix ix_list (pv 1) (pe_ix ix_tup (pv 3) pe_int (fun _ _ => rfl)) (fun _ _ => rfl)) (pa_cons (pe_ix ix_list (pv 1) (pe_ix ix_tup (pv 3) pe_int (fun _ _ => rfl)) (fun _ _ => rfl)) pa_nil)))) (pss_cons (ps_set (i := 2) sclaw_code.nd rfl (by first | exact Or.inl rfl | exact Or.inr rfl) (pe_op op_add (pv 2) (pe_op op_shl pe_int (pe_op op_add (pe_op op_fdiv (pe_op op_mul (pv 5) (pe_op op_add (pv 5) pe_int)) pe_int) (pv 4))))) pss_nil)))) (pss_cons (ps_ret (pv 2)) pss_nil)))
/-! _law_is_least -/
abbrev rdlaw_is_least (K : PySem.W.Frag) (C : Addr) (f__law_code : PF) : TS := (tSeq (tAsg (tCall (spF C 2 f__law_code) [] E0 (tCons (tVar 0) (tCons (tOp (rIxL K) (tVar 1) (tC (.int 0))) tNil))) (gName 2)) (tSeq (tFor (iList K (tVar 1)) (gName 3) (tSeq (tIfS (tTest (tOp (rI0 fun i j => .bl (decide (i < j))) (tCall (spF C 2 f__law_code) [] E0 (tCons (tVar 0) (tCons (tVar 3) tNil))) (tVar 2))) (tSeq (tRet (tC (.bl false))) tNext) tNext) tNext)) (tSeq (tRet (tC (.bl true))) tNext)))
def inlaw_is_least (K : PySem.W.Frag) (C : Addr) (f__law_code : PF) : RS C E0 (rdlaw_is_least K C f__law_code) := inferInstance
def Flaw_is_least (K : PySem.W.Frag) (C : Addr) (f__law_code : PF) : PF := fun ds => outF0 ((inlaw_is_least K C f__law_code).run (startA 4 ds))
abbrev Nlaw_is_least : List Str := ["_law_web_here", "_law_rows", "_law_own", "_law_row"]
theorem sclaw_is_least : FnScope Nlaw_is_least ["_law_web_here", "_law_rows"] (defScope (K16.top 52)) := ⟨rfl, rfl, rfl, by decide +kernel, rfl, by decide +kernel, by decide +kernel⟩
theorem oklaw_is_least {f__law_code : PF} {f : PF} (T : Tx mg) (D : DefAt K mg (K16.top 52) "_law_is_least" []) (c__law_code : Cal P w K mg base 1 "_law_code" [] (spF C 2 f__law_code)) (hf : ∀ ds, ds.length = 2 → Ref (f ds) (Flaw_is_least K C f__law_code ds)) : Cal P w K mg base 2 "_law_is_least" [] (spF C 2 f) := by
  refine cal_of0 (ps := ["_law_web_here", "_law_rows"]) D sclaw_is_least rfl (fun _ _ _ _ _ _ us hl => match us, hl with | [_, _], _ => rfl) (rdlaw_is_least K C f__law_code) (inlaw_is_least K C f__law_code) hf fun f cdv A outer s H E hr => ?_
  exact (pss_cons (ps_set (i := 2) sclaw_is_least.nd rfl (by first | exact Or.inl rfl | exact Or.inr rfl) (pe_cal c__law_code (hr.mono (by decide)) passL (pa_cons (pv 0) (pa_cons (pe_ix ix_list (pv 1) pe_int (fun _ _ => rfl)) pa_nil)))) (pss_cons (ps_for (passes_of rfl) rfl (pi_list (pv 1)) (pg_name (i := 3) sclaw_is_least.nd rfl (by first | exact Or.inl rfl | exact Or.inr rfl)) (pss_cons (ps_if (pt_cmpR op_lt (pe_cal c__law_code (hr.mono (by decide)) passL (pa_cons (pv 0) (pa_cons (pv 3) pa_nil))) (pv 2) (nomark _)) (pss_cons (ps_ret pe_bl) pss_nil) pss_nil) pss_nil)) (pss_cons (ps_ret pe_bl) pss_nil)))
/-! _law_catalogue -/
abbrev rdlaw_catalogue (K : PySem.W.Frag) (C : Addr) (f__law_permutations : PF) (f__law_is_least : PF) : TS := (tSeq (tOwn tNil 2) (tSeq (tFor (iRng1 (tCons (tOp (rI0 fun i j => .int (i + j)) (tVar 0) (tC (.int 1))) tNil)) (gName 3) (tSeq (tAsg (tCall (spF C 1 f__law_permutations) [] E0 (tCons (tVar 3) tNil)) (gName 4)) (tSeq (tOwn tNil 5) (tSeq (tFor (iRng1 (tCons (tVar 3) tNil)) (gName 6) (tSeq (tFor (iRng1 (tCons (tOp (rI0 fun i j => .int (i + j)) (tVar 6) (tC (.int 1))) tNil)) (gName 8) (tSeq (tIfS (tOr (tTest (tOp (rI0 fun i j => .bl (decide (i < j))) (tVar 8) (tVar 6))) (tB (tVar 1))) (tSeq (tDrop (tBM K "list" rAppend (tVar 5) (tCons (tTup (tCons (tVar 8) (tCons (tVar 6) tNil))) tNil))) tNext) tNext) tNext)) tNext)) (tSeq (tFor (iRng1 (tCons (tOp (rI CPow fun i j => .int (i * 2 ^ j.toNat)) (tC (.int 1)) (tCB (rLenQ K) (tCons (tVar 5) tNil))) tNil)) (gName 7) (tSeq (tAsg (tTup (tCons (tVar 3) (tCons (tCB (rTupQ K) (tCons (tCB (rSortedPO K) (tCons (tLc (iRng1 (tCons (tCB (rLenQ K) (tCons (tVar 5) tNil)) tNil)) (gName 10) (tTest (tOp rEq (tOp (rI0 fun i j => .int (Builtin.bitAnd i j)) (tOp (rI (fun _ j => 0 ≤ j) fun i j => .int (i / 2 ^ j.toNat)) (tVar 7) (tVar 10)) (tC (.int 1))) (tC (.int 1)))) (tOp (rIxL K) (tVar 5) (tVar 10)) [10]) tNil)) tNil)) tNil))) (gName 9)) (tSeq (tIfS (tB (tCall (spF C 2 f__law_is_least) [] E0 (tCons (tVar 9) (tCons (tVar 4) tNil)))) (tSeq (tDrop (tBM K "list" rAppend (tVar 2) (tCons (tVar 9) tNil))) tNext) tNext) tNext))) tNext))))) (tSeq (tRet (tVar 2)) tNext)))
def inlaw_catalogue (K : PySem.W.Frag) (C : Addr) (f__law_permutations : PF) (f__law_is_least : PF) : RS C E0 (rdlaw_catalogue K C f__law_permutations f__law_is_least) := inferInstance
def Flaw_catalogue (K : PySem.W.Frag) (C : Addr) (f__law_permutations : PF) (f__law_is_least : PF) : PF := fun ds => outF0 ((inlaw_catalogue K C f__law_permutations f__law_is_least).run (startA 11 ds))
abbrev Nlaw_catalogue : List Str := ["_law_limit", "_law_looped", "_law_webs", "_law_size", "_law_rows", "_law_pairs", "_law_v", "_law_number", "_law_u", "_law_web_here", "_law_k"]
theorem sclaw_catalogue : FnScope Nlaw_catalogue ["_law_limit", "_law_looped"] (defScope (K16.top 53)) := ⟨rfl, rfl, rfl, by decide +kernel, rfl, by decide +kernel, by decide +kernel⟩
theorem oklaw_catalogue {f__law_permutations : PF} {f__law_is_least : PF} {f : PF} (T : Tx mg) (D : DefAt K mg (K16.top 53) "_law_catalogue" []) (c__law_permutations : Cal P w K mg base 1 "_law_permutations" [] (spF C 1 f__law_permutations)) (c__law_is_least : Cal P w K mg base 2 "_law_is_least" [] (spF C 2 f__law_is_least)) (hf : ∀ ds, ds.length = 2 → Ref (f ds) (Flaw_catalogue K C f__law_permutations f__law_is_least ds)) : Cal P w K mg base 3 "_law_catalogue" [] (spF C 2 f) := by
  refine cal_of0 (ps := ["_law_limit", "_law_looped"]) D sclaw_catalogue rfl (fun _ _ _ _ _ _ us hl => match us, hl with | [_, _], _ => rfl) (rdlaw_catalogue K C f__law_permutations f__law_is_least) (inlaw_catalogue K C f__law_permutations f__law_is_least) hf fun f cdv A outer s H E hr => ?_
  exact (pss_cons (ps_set (i := 2) sclaw_catalogue.nd rfl (by first | exact Or.inl rfl | exact Or.inr rfl) (pe_lst pa_nil)) (pss_cons (ps_for (passes_of rfl) rfl (pi_range1 (by rfl) T.n_range (pa_cons (pe_op op_add (pv 0) pe_int) pa_nil)) (pg_name (i := 3) sclaw_catalogue.nd rfl (by first | exact Or.inl rfl | exact Or.inr rfl)) (pss_cons (ps_set (i := 4) sclaw_catalogue.nd rfl (by first | exact Or.inl rfl | exact Or.inr rfl) (pe_cal c__law_permutations (hr.mono (by decide)) passL (pa_cons (pv 3) pa_nil))) (pss_cons (ps_set (i := 5) sclaw_catalogue.nd rfl (by first | exact Or.inl rfl | exact Or.inr rfl) (pe_lst pa_nil)) (pss_cons (ps_for (passes_of rfl) rfl (pi_range1 (by rfl) T.n_range (pa_cons (pv 3) pa_nil)) (pg_name (i := 6) sclaw_catalogue.nd rfl (by first | exact Or.inl rfl | exact Or.inr rfl)) (pss_cons (ps_for (passes_of rfl) rfl (pi_range1 (by rfl) T.n_range (pa_cons (pe_op op_add (pv 6) pe_int) pa_nil)) (pg_name (i := 8) sclaw_catalogue.nd rfl (by first | exact Or.inl rfl | exact Or.inr rfl)) (pss_cons (ps_if (pw_or (pt_cmpR op_lt (pv 8) (pv 6) (nomark _)) (pw_or1 (pt_val (pv 1)))).pt (pss_cons (ps_expr (pe_bm PySem.F.plainAttrs_list PySem.F.slot_list_append PySem.F.type_list_append mt_append (pv 5) (pa_cons (pe_tup (pa_cons (pv 8) (pa_cons (pv 6) pa_nil))) pa_nil))) pss_nil) pss_nil) pss_nil)) pss_nil)) (pss_cons (ps_for (passes_of rfl) rfl (pi_range1 (by rfl) T.n_range (pa_cons (pe_op op_shl pe_int (pe_callB cr_lenQ (by rfl) T.n_len PySem.boot_len (pa_cons (pv 5) pa_nil))) pa_nil)) (pg_name (i := 7) sclaw_catalogue.nd rfl (by first | exact Or.inl rfl | exact Or.inr rfl)) (pss_cons (ps_set (i := 9) sclaw_catalogue.nd rfl (by first | exact Or.inl rfl | exact Or.inr rfl) (pe_tup (pa_cons (pv 3) (pa_cons (pe_callTy cr_tupQ (by rfl) T.n_tuple (by decide +kernel) (pa_cons (pe_callB cr_sortedPO (by rfl) T.n_sorted boot_sorted (pa_cons (pe_lc (own := [("_law_k", 10)]) rfl sclaw_catalogue.nd (pi_range1 (by rfl) T.n_range (pa_cons (pe_callB cr_lenQ (by rfl) T.n_len PySem.boot_len (pa_cons (pv 5) pa_nil)) pa_nil)) (blkOk_by (own := [("_law_k", 10)]) (N := Nlaw_catalogue) (by kernel_rfl)) (fun _ _ _ _ _ => (pg_name (i := 10) sclaw_catalogue.nd rfl (by first | exact Or.inl rfl | exact Or.inr rfl))) (fun _ _ _ _ _ => (pts_one (pt_cmpR op_eq (pe_op op_and (pe_op op_shr (pv 7) (pv 10)) pe_int) pe_int (nomark _)))) (fun _ _ _ _ _ => (pe_ix ix_list (pv 5) (pv 10) (fun _ _ => rfl)))) pa_nil)) pa_nil)) pa_nil)))) (pss_cons (ps_if (pt_val (pe_cal c__law_is_least (hr.mono (by decide)) passL (pa_cons (pv 9) (pa_cons (pv 4) pa_nil)))) (pss_cons (ps_expr (pe_bm PySem.F.plainAttrs_list PySem.F.slot_list_append PySem.F.type_list_append mt_append (pv 2) (pa_cons (pv 9) pa_nil))) pss_nil) pss_nil) pss_nil))) pss_nil))))) (pss_cons (ps_ret (pv 2)) pss_nil)))
/-! _law_count -/
abbrev rdlaw_count (K : PySem.W.Frag) (C : Addr)  : TS := (tSeq (tAsg (tLst (tCons (tLst tNil) tNil)) (gName 2)) (tSeq (tFor (iRng1 (tCons (tOp (rIxT K) (tVar 0) (tC (.int 0))) tNil)) (gName 3) (tSeq (tAsg (tLc (iTup K (tOp (rIxT K) (tVar 0) (tC (.int 1)))) (gName 8) (tTest (tOp rEq (tOp (rIxT K) (tVar 8) (tC (.int 1))) (tVar 3))) (tOp (rIxT K) (tVar 8) (tC (.int 0))) [8]) (gName 4)) (tSeq (tOwn tNil 5) (tSeq (tFor (iList K (tCB (rListQ K) (tCons (tVar 2) tNil))) (gName 6) (tSeq (tFor (iRng1 (tCons (tCB (rLenQ K) (tCons (tVar 1) tNil)) tNil)) (gName 7) (tSeq (tAsg (tOp rCat (tVar 6) (tLst (tCons (tVar 7) tNil))) (gName 9)) (tSeq (tIfS (tTest (tOp (rIn K true) (tC (.bl false)) (tLc (iList K (tVar 4)) (gName 10) tYes (tOp (rIxL K) (tOp (rIxL K) (tVar 1) (tOp (rIxL K) (tVar 9) (tVar 10))) (tVar 7)) [10]))) (tSeq (tDrop (tBM K "list" rAppend (tVar 5) (tCons (tVar 9) tNil))) tNext) tNext) tNext))) tNext)) (tSeq (tAsg (tVar 5) (gName 2)) tNext))))) (tSeq (tRet (tCB (rLenQ K) (tCons (tVar 2) tNil))) tNext)))
def inlaw_count (K : PySem.W.Frag) (C : Addr)  : RS C E0 (rdlaw_count K C ) := inferInstance
def Flaw_count (K : PySem.W.Frag) (C : Addr)  : PF := fun ds => outF0 ((inlaw_count K C ).run (startA 11 ds))
abbrev Nlaw_count : List Str := ["_law_x", "_law_near", "_law_rows", "_law_node", "_law_lower", "_law_longer", "_law_row", "_law_value", "_law_edge", "_law_given", "_law_u"]
theorem sclaw_count : FnScope Nlaw_count ["_law_x", "_law_near"] (defScope (K16.top 54)) := ⟨rfl, rfl, rfl, by decide +kernel, rfl, by decide +kernel, by decide +kernel⟩
theorem oklaw_count  {f : PF} (T : Tx mg) (D : DefAt K mg (K16.top 54) "_law_count" [])  (hf : ∀ ds, ds.length = 2 → Ref (f ds) (Flaw_count K C  ds)) : Cal P w K mg base 1 "_law_count" [] (spF C 2 f) := by
  refine cal_of0 (ps := ["_law_x", "_law_near"]) D sclaw_count rfl (fun _ _ _ _ _ _ us hl => match us, hl with | [_, _], _ => rfl) (rdlaw_count K C ) (inlaw_count K C ) hf fun f cdv A outer s H E hr => ?_
  exact (pss_cons (ps_set (i := 2) sclaw_count.nd rfl (by first | exact Or.inl rfl | exact Or.inr rfl) (pe_lst (pa_cons (pe_lst pa_nil) pa_nil))) (pss_cons (ps_for (passes_of rfl) rfl (pi_range1 (by rfl) T.n_range (pa_cons (pe_ix ix_tup (pv 0) pe_int (fun _ _ => rfl)) pa_nil)) (pg_name (i := 3) sclaw_count.nd rfl (by first | exact Or.inl rfl | exact Or.inr rfl)) (pss_cons (ps_setLc (own := [("_law_edge", 8)]) (i := 4) rfl sclaw_count.nd rfl rfl (sw_true rfl rfl rfl (by decide +kernel)) (pi_tup (pe_ix ix_tup (pv 0) pe_int (fun _ _ => rfl))) (blkOk_by (own := [("_law_edge", 8)]) (N := Nlaw_count) (by kernel_rfl)) (fun _ _ _ _ _ => (pg_name (i := 8) sclaw_count.nd rfl (by first | exact Or.inl rfl | exact Or.inr rfl))) (fun _ _ _ _ _ => (pts_one (pt_cmpR op_eq (pe_ix ix_tup (pv 8) pe_int (fun _ _ => rfl)) (pv 3) (nomark _)))) (fun _ _ _ _ _ => (pe_ix ix_tup (pv 8) pe_int (fun _ _ => rfl)))) (pss_cons (ps_set (i := 5) sclaw_count.nd rfl (by first | exact Or.inl rfl | exact Or.inr rfl) (pe_lst pa_nil)) (pss_cons (ps_for (passes_of rfl) rfl (pi_list (pe_callTy cr_listQ (by rfl) T.n_list (by decide +kernel) (pa_cons (pv 2) pa_nil))) (pg_name (i := 6) sclaw_count.nd rfl (by first | exact Or.inl rfl | exact Or.inr rfl)) (pss_cons (ps_for (passes_of rfl) rfl (pi_range1 (by rfl) T.n_range (pa_cons (pe_callB cr_lenQ (by rfl) T.n_len PySem.boot_len (pa_cons (pv 1) pa_nil)) pa_nil)) (pg_name (i := 7) sclaw_count.nd rfl (by first | exact Or.inl rfl | exact Or.inr rfl)) (pss_cons (ps_set (i := 9) sclaw_count.nd rfl (by first | exact Or.inl rfl | exact Or.inr rfl) (pe_op op_cat (pv 6) (pe_lst (pa_cons (pv 7) pa_nil)))) (pss_cons (ps_if (pt_cmpR op_notIn_seq pe_bl (pe_lc (own := [("_law_u", 10)]) rfl sclaw_count.nd (pi_list (pv 4)) (blkOk_by (own := [("_law_u", 10)]) (N := Nlaw_count) (by kernel_rfl)) (fun _ _ _ _ _ => (pg_name (i := 10) sclaw_count.nd rfl (by first | exact Or.inl rfl | exact Or.inr rfl))) (fun _ _ _ _ _ => pts_nil) (fun _ _ _ _ _ => (pe_ix ix_list (pe_ix ix_list (pv 1) (pe_ix ix_list (pv 9) (pv 10) (fun _ _ => rfl)) (fun _ _ => rfl)) (pv 7) (fun _ _ => rfl)))) (by rfl)) (pss_cons (ps_expr (pe_bm PySem.F.plainAttrs_list PySem.F.slot_list_append PySem.F.type_list_append mt_append (pv 5) (pa_cons (pv 9) pa_nil))) pss_nil) pss_nil) pss_nil))) pss_nil)) (pss_cons (ps_set (i := 2) sclaw_count.nd rfl (by first | exact Or.inl rfl | exact Or.inr rfl) (pv 5)) pss_nil))))) (pss_cons (ps_ret (pe_callB cr_lenQ (by rfl) T.n_len PySem.boot_len (pa_cons (pv 2) pa_nil))) pss_nil)))
/-! _law_alike -/
abbrev rdlaw_alike (K : PySem.W.Frag) (C : Addr) (f__law_code : PF) (f__law_permutations : PF) : TS := (tSeq (tIfS (tTest (tOp rNe (tOp (rIxT K) (tVar 0) (tC (.int 0))) (tOp (rIxT K) (tVar 1) (tC (.int 0))))) (tSeq (tRet (tC (.bl false))) tNext) tNext) (tSeq (tAsg (tCall (spF C 2 f__law_code) [] E0 (tCons (tVar 1) (tCons (tLc (iRng1 (tCons (tOp (rIxT K) (tVar 1) (tC (.int 0))) tNil)) (gName 3) tYes (tVar 3) [3]) tNil))) (gName 2)) (tSeq (tRet (tOp (rIn K false) (tVar 2) (tLc (iList K (tCall (spF C 1 f__law_permutations) [] E0 (tCons (tOp (rIxT K) (tVar 0) (tC (.int 0))) tNil))) (gName 4) tYes (tCall (spF C 2 f__law_code) [] E0 (tCons (tVar 0) (tCons (tVar 4) tNil))) [4]))) tNext)))
def inlaw_alike (K : PySem.W.Frag) (C : Addr) (f__law_code : PF) (f__law_permutations : PF) : RS C E0 (rdlaw_alike K C f__law_code f__law_permutations) := inferInstance
def Flaw_alike (K : PySem.W.Frag) (C : Addr) (f__law_code : PF) (f__law_permutations : PF) : PF := fun ds => outF0 ((inlaw_alike K C f__law_code f__law_permutations).run (startA 5 ds))
abbrev Nlaw_alike : List Str := ["_law_a", "_law_b", "_law_code_here", "_law_k", "_law_row"]
theorem sclaw_alike : FnScope Nlaw_alike ["_law_a", "_law_b"] (defScope (K16.top 55)) := ⟨rfl, rfl, rfl, by decide +kernel, rfl, by decide +kernel, by decide +kernel⟩
theorem oklaw_alike {f__law_code : PF} {f__law_permutations : PF} {f : PF} (T : Tx mg) (D : DefAt K mg (K16.top 55) "_law_alike" []) (c__law_code : Cal P w K mg base 1 "_law_code" [] (spF C 2 f__law_code)) (c__law_permutations : Cal P w K mg base 1 "_law_permutations" [] (spF C 1 f__law_permutations)) (hf : ∀ ds, ds.length = 2 → Ref (f ds) (Flaw_alike K C f__law_code f__law_permutations ds)) : Cal P w K mg base 2 "_law_alike" [] (spF C 2 f) := by
  refine cal_of0 (ps := ["_law_a", "_law_b"]) D sclaw_alike rfl (fun _ _ _ _ _ _ us hl => match us, hl with | [_, _], _ => rfl) (rdlaw_alike K C f__law_code f__law_permutations) (inlaw_alike K C f__law_code f__law_permutations) hf fun f cdv A outer s H E hr => ?_
  exact (pss_cons (ps_if (pt_cmpR op_ne (pe_ix ix_tup (pv 0) pe_int (fun _ _ => rfl)) (pe_ix ix_tup (pv 1) pe_int (fun _ _ => rfl)) (nomark _)) (pss_cons (ps_ret pe_bl) pss_nil) pss_nil) (pss_cons (ps_set (i := 2) sclaw_alike.nd rfl (by first | exact Or.inl rfl | exact Or.inr rfl) (pe_cal c__law_code (hr.mono (by decide)) passL (pa_cons (pv 1) (pa_cons (pe_lc (own := [("_law_k", 3)]) rfl sclaw_alike.nd (pi_range1 (by rfl) T.n_range (pa_cons (pe_ix ix_tup (pv 1) pe_int (fun _ _ => rfl)) pa_nil)) (blkOk_by (own := [("_law_k", 3)]) (N := Nlaw_alike) (by kernel_rfl)) (fun _ _ _ _ _ => (pg_name (i := 3) sclaw_alike.nd rfl (by first | exact Or.inl rfl | exact Or.inr rfl))) (fun _ _ _ _ _ => pts_nil) (fun _ _ _ _ _ => (pv 3))) pa_nil)))) (pss_cons (ps_ret (pe_cmpR op_in_seq (pv 2) (pe_lc (own := [("_law_row", 4)]) rfl sclaw_alike.nd (pi_list (pe_cal c__law_permutations (hr.mono (by decide)) passL (pa_cons (pe_ix ix_tup (pv 0) pe_int (fun _ _ => rfl)) pa_nil))) (blkOk_by (own := [("_law_row", 4)]) (N := Nlaw_alike) (by kernel_rfl)) (fun _ _ _ _ _ => (pg_name (i := 4) sclaw_alike.nd rfl (by first | exact Or.inl rfl | exact Or.inr rfl))) (fun _ _ _ _ _ => pts_nil) (fun _ _ _ _ _ => (pe_cal c__law_code (hr.mono (by decide)) passL (pa_cons (pv 0) (pa_cons (pv 4) pa_nil))))) (by rfl))) pss_nil)))
/-! _law_due -/
abbrev rdlaw_due (K : PySem.W.Frag) (C : Addr) (f__law_alike : PF) (f__law_matrix : PF) (f__law_count : PF) : TS := (tSeq (tIfS (tB (tCall (spF C 2 f__law_alike) [] E0 (tCons (tVar 0) (tCons (tVar 1) tNil)))) (tSeq (tRet (tC .non)) tNext) tNext) (tSeq (tAsg (tCall (spF C 1 f__law_matrix) [] E0 (tCons (tVar 0) tNil)) (gName 3)) (tSeq (tAsg (tCall (spF C 1 f__law_matrix) [] E0 (tCons (tVar 1) tNil)) (gName 4)) (tSeq (tFor (iList K (tVar 2)) (gName 5) (tSeq (tIfS (tTest (tOp rNe (tCall (spF C 2 f__law_count) [] E0 (tCons (tVar 5) (tCons (tVar 3) tNil))) (tCall (spF C 2 f__law_count) [] E0 (tCons (tVar 5) (tCons (tVar 4) tNil))))) (tSeq (tRet (tTup (tCons (tVar 5) (tCons (tCall (spF C 2 f__law_count) [] E0 (tCons (tVar 5) (tCons (tVar 3) tNil))) (tCons (tCall (spF C 2 f__law_count) [] E0 (tCons (tVar 5) (tCons (tVar 4) tNil))) tNil))))) tNext) tNext) tNext)) (tSeq (tRet (tC (.str "no web tells"))) tNext)))))
def inlaw_due (K : PySem.W.Frag) (C : Addr) (f__law_alike : PF) (f__law_matrix : PF) (f__law_count : PF) : RS C E0 (rdlaw_due K C f__law_alike f__law_matrix f__law_count) := inferInstance
def Flaw_due (K : PySem.W.Frag) (C : Addr) (f__law_alike : PF) (f__law_matrix : PF) (f__law_count : PF) : PF := fun ds => outF0 ((inlaw_due K C f__law_alike f__law_matrix f__law_count).run (startA 6 ds))
abbrev Nlaw_due : List Str := ["_law_a", "_law_b", "_law_webs", "_law_first", "_law_second", "_law_x"]
theorem sclaw_due : FnScope Nlaw_due ["_law_a", "_law_b", "_law_webs"] (defScope (K16.top 56)) := ⟨rfl, rfl, rfl, by decide +kernel, rfl, by decide +kernel, by decide +kernel⟩
theorem oklaw_due {f__law_alike : PF} {f__law_matrix : PF} {f__law_count : PF} {f : PF} (T : Tx mg) (D : DefAt K mg (K16.top 56) "_law_due" []) (c__law_alike : Cal P w K mg base 2 "_law_alike" [] (spF C 2 f__law_alike)) (c__law_matrix : Cal P w K mg base 1 "_law_matrix" [] (spF C 1 f__law_matrix)) (c__law_count : Cal P w K mg base 1 "_law_count" [] (spF C 2 f__law_count)) (hf : ∀ ds, ds.length = 3 → Ref (f ds) (Flaw_due K C f__law_alike f__law_matrix f__law_count ds)) : Cal P w K mg base 3 "_law_due" [] (spF C 3 f) := by
  refine cal_of0 (ps := ["_law_a", "_law_b", "_law_webs"]) D sclaw_due rfl (fun _ _ _ _ _ _ us hl => match us, hl with | [_, _, _], _ => rfl) (rdlaw_due K C f__law_alike f__law_matrix f__law_count) (inlaw_due K C f__law_alike f__law_matrix f__law_count) hf fun f cdv A outer s H E hr => ?_
  exact (pss_cons (ps_if (pt_val (pe_cal c__law_alike (hr.mono (by decide)) passL (pa_cons (pv 0) (pa_cons (pv 1) pa_nil)))) (pss_cons (ps_ret pe_non) pss_nil) pss_nil) (pss_cons (ps_set (i := 3) sclaw_due.nd rfl (by first | exact Or.inl rfl | exact Or.inr rfl) (pe_cal c__law_matrix (hr.mono (by decide)) passL (pa_cons (pv 0) pa_nil))) (pss_cons (ps_set (i := 4) sclaw_due.nd rfl (by first | exact Or.inl rfl | exact Or.inr rfl) (pe_cal c__law_matrix (hr.mono (by decide)) passL (pa_cons (pv 1) pa_nil))) (pss_cons (ps_for (passes_of rfl) rfl (pi_list (pv 2)) (pg_name (i := 5) sclaw_due.nd rfl (by first | exact Or.inl rfl | exact Or.inr rfl)) (pss_cons (ps_if (pt_cmpR op_ne (pe_cal c__law_count (hr.mono (by decide)) passL (pa_cons (pv 5) (pa_cons (pv 3) pa_nil))) (pe_cal c__law_count (hr.mono (by decide)) passL (pa_cons (pv 5) (pa_cons (pv 4) pa_nil))) (nomark _)) (pss_cons (ps_ret (pe_tup (pa_cons (pv 5) (pa_cons (pe_cal c__law_count (hr.mono (by decide)) passL (pa_cons (pv 5) (pa_cons (pv 3) pa_nil))) (pa_cons (pe_cal c__law_count (hr.mono (by decide)) passL (pa_cons (pv 5) (pa_cons (pv 4) pa_nil))) pa_nil))))) pss_nil) pss_nil) pss_nil)) (pss_cons (ps_ret pe_str) pss_nil)))))
/-! _law_has_loop -/
abbrev rdlaw_has_loop (K : PySem.W.Frag) (C : Addr)  : TS := (tSeq (tRet (tOp (rIn K false) (tC (.bl true)) (tLc (iTup K (tOp (rIxT K) (tVar 0) (tC (.int 1)))) (gName 1) tYes (tOp rEq (tOp (rIxT K) (tVar 1) (tC (.int 0))) (tOp (rIxT K) (tVar 1) (tC (.int 1)))) [1]))) tNext)
def inlaw_has_loop (K : PySem.W.Frag) (C : Addr)  : RS C E0 (rdlaw_has_loop K C ) := inferInstance
def Flaw_has_loop (K : PySem.W.Frag) (C : Addr)  : PF := fun ds => outF0 ((inlaw_has_loop K C ).run (startA 2 ds))
abbrev Nlaw_has_loop : List Str := ["_law_web_here", "_law_edge"]
theorem sclaw_has_loop : FnScope Nlaw_has_loop ["_law_web_here"] (defScope (K16.top 57)) := ⟨rfl, rfl, rfl, by decide +kernel, rfl, by decide +kernel, by decide +kernel⟩
theorem oklaw_has_loop  {f : PF} (T : Tx mg) (D : DefAt K mg (K16.top 57) "_law_has_loop" [])  (hf : ∀ ds, ds.length = 1 → Ref (f ds) (Flaw_has_loop K C  ds)) : Cal P w K mg base 1 "_law_has_loop" [] (spF C 1 f) := by
  refine cal_of0 (ps := ["_law_web_here"]) D sclaw_has_loop rfl (fun _ _ _ _ _ _ us hl => match us, hl with | [_], _ => rfl) (rdlaw_has_loop K C ) (inlaw_has_loop K C ) hf fun f cdv A outer s H E hr => ?_
  exact (pss_cons (ps_ret (pe_cmpR op_in_seq pe_bl (pe_lc (own := [("_law_edge", 1)]) rfl sclaw_has_loop.nd (pi_tup (pe_ix ix_tup (pv 0) pe_int (fun _ _ => rfl))) (blkOk_by (own := [("_law_edge", 1)]) (N := Nlaw_has_loop) (by kernel_rfl)) (fun _ _ _ _ _ => (pg_name (i := 1) sclaw_has_loop.nd rfl (by first | exact Or.inl rfl | exact Or.inr rfl))) (fun _ _ _ _ _ => pts_nil) (fun _ _ _ _ _ => (pe_cmpR op_eq (pe_ix ix_tup (pv 1) pe_int (fun _ _ => rfl)) (pe_ix ix_tup (pv 1) pe_int (fun _ _ => rfl)) (nomark _)))) (by rfl))) pss_nil)
/-! _law_listed -/
abbrev rdlaw_listed (K : PySem.W.Frag) (C : Addr) (f_catalogue : PF) : TS := (tSeq (tIfS (tB (tVar 1)) (tSeq (tRet (tCallN 1 1 (spF C 2 f_catalogue) (fun vs zs => vs ++ zs) E0 (tCons (tVar 0) tNil) (tCons (tC (.bl true)) tNil))) tNext) tNext) (tSeq (tRet (tCall (spF C 2 f_catalogue) [.bl false] E0 (tCons (tVar 0) tNil))) tNext))
def inlaw_listed (K : PySem.W.Frag) (C : Addr) (f_catalogue : PF) : RS C E0 (rdlaw_listed K C f_catalogue) := inferInstance
def Flaw_listed (K : PySem.W.Frag) (C : Addr) (f_catalogue : PF) : PF := fun ds => outF0 ((inlaw_listed K C f_catalogue).run (startA 2 ds))
abbrev Nlaw_listed : List Str := ["_law_limit", "_law_looped"]
theorem sclaw_listed : FnScope Nlaw_listed ["_law_limit", "_law_looped"] (defScope (K16.top 58)) := ⟨rfl, rfl, rfl, by decide +kernel, rfl, by decide +kernel, by decide +kernel⟩
theorem oklaw_listed {f_catalogue : PF} {f : PF} (T : Tx mg) (D : DefAt K mg (K16.top 58) "_law_listed" []) (d_catalogue : Cal P w K mg base 10 "catalogue" [.bl false] (spF C 2 f_catalogue)) (c_catalogue : CalN P w K mg base 10 "catalogue" 1 ["loops"] (spF C 2 f_catalogue)) (hf : ∀ ds, ds.length = 2 → Ref (f ds) (Flaw_listed K C f_catalogue ds)) : Cal P w K mg base 11 "_law_listed" [] (spF C 2 f) := by
  refine cal_of0 (ps := ["_law_limit", "_law_looped"]) D sclaw_listed rfl (fun _ _ _ _ _ _ us hl => match us, hl with | [_, _], _ => rfl) (rdlaw_listed K C f_catalogue) (inlaw_listed K C f_catalogue) hf fun f cdv A outer s H E hr => ?_
  exact (pss_cons (ps_if (pt_val (pv 1)) (pss_cons (ps_ret (pe_calN c_catalogue (hr.mono (by decide)) passL (pa_cons (pv 0) pa_nil) (pk_cons pe_bl pk_nil))) pss_nil) pss_nil) (pss_cons (ps_ret (pe_cal d_catalogue (hr.mono (by decide)) passL (pa_cons (pv 0) pa_nil))) pss_nil))
/-! _law_counts -/
abbrev rdlaw_counts (K : PySem.W.Frag) (C : Addr) (f__law_matrix : PF) (f__law_count : PF) : TS := (tSeq (tAsg (tCall (spF C 1 f__law_matrix) [] E0 (tCons (tVar 0) tNil)) (gName 2)) (tSeq (tRet (tLc (iList K (tVar 1)) (gName 3) tYes (tCall (spF C 2 f__law_count) [] E0 (tCons (tVar 3) (tCons (tVar 2) tNil))) [3])) tNext))
def inlaw_counts (K : PySem.W.Frag) (C : Addr) (f__law_matrix : PF) (f__law_count : PF) : RS C E0 (rdlaw_counts K C f__law_matrix f__law_count) := inferInstance
def Flaw_counts (K : PySem.W.Frag) (C : Addr) (f__law_matrix : PF) (f__law_count : PF) : PF := fun ds => outF0 ((inlaw_counts K C f__law_matrix f__law_count).run (startA 4 ds))
abbrev Nlaw_counts : List Str := ["_law_a", "_law_webs", "_law_near", "_law_x"]
theorem sclaw_counts : FnScope Nlaw_counts ["_law_a", "_law_webs"] (defScope (K16.top 61)) := ⟨rfl, rfl, rfl, by decide +kernel, rfl, by decide +kernel, by decide +kernel⟩
theorem oklaw_counts {f__law_matrix : PF} {f__law_count : PF} {f : PF} (T : Tx mg) (D : DefAt K mg (K16.top 61) "_law_counts" []) (c__law_matrix : Cal P w K mg base 1 "_law_matrix" [] (spF C 1 f__law_matrix)) (c__law_count : Cal P w K mg base 1 "_law_count" [] (spF C 2 f__law_count)) (hf : ∀ ds, ds.length = 2 → Ref (f ds) (Flaw_counts K C f__law_matrix f__law_count ds)) : Cal P w K mg base 2 "_law_counts" [] (spF C 2 f) := by
  refine cal_of0 (ps := ["_law_a", "_law_webs"]) D sclaw_counts rfl (fun _ _ _ _ _ _ us hl => match us, hl with | [_, _], _ => rfl) (rdlaw_counts K C f__law_matrix f__law_count) (inlaw_counts K C f__law_matrix f__law_count) hf fun f cdv A outer s H E hr => ?_
  exact (pss_cons (ps_set (i := 2) sclaw_counts.nd rfl (by first | exact Or.inl rfl | exact Or.inr rfl) (pe_cal c__law_matrix (hr.mono (by decide)) passL (pa_cons (pv 0) pa_nil))) (pss_cons (ps_ret (pe_lc (own := [("_law_x", 3)]) rfl sclaw_counts.nd (pi_list (pv 1)) (blkOk_by (own := [("_law_x", 3)]) (N := Nlaw_counts) (by kernel_rfl)) (fun _ _ _ _ _ => (pg_name (i := 3) sclaw_counts.nd rfl (by first | exact Or.inl rfl | exact Or.inr rfl))) (fun _ _ _ _ _ => pts_nil) (fun _ _ _ _ _ => (pe_cal c__law_count (hr.mono (by decide)) passL (pa_cons (pv 3) (pa_cons (pv 2) pa_nil)))))) pss_nil))
end
end DL
end
section
set_option Elab.async false
set_option linter.all false
set_option maxRecDepth 100000
set_option maxHeartbeats 4000000
/-! RW2: a list of lists of its own, changed within. -/
namespace DL
open PySem L2 GX PyProof.Rows
section
variable {B G G0 H H' H1 : Hp} {σ : L2.St} {δ : List Sl} {i : Nat} {rows : List (List PyData)} {K : PySem.W.Frag}
def Rw (B G H : Hp) (σ : L2.St) (i : Nat) (rows : List (List PyData)) : Prop := ∃ (a : Addr) (rs : List Addr), σ[i]? = some (some (.ref a)) ∧ H a = some (.lst (rs.map V.ref)) ∧ G a = none ∧ B a = none ∧ a ∉ rs ∧ rs.Nodup ∧ rs.length = rows.length ∧
  ∀ (j : Nat) (r : Addr), rs[j]? = some r → ∃ xs ds, rows[j]? = some ds ∧ H r = some (.lst xs) ∧ G r = none ∧ B r = none ∧ Dats G xs ds
theorem Rw.step (R : Rw B G H σ i rows) (s : Same H H') : Rw B (ext G H H') H' σ i rows := by
  obtain ⟨a, rs, h1, h2, h3, h4, h5, h6, h7, h8⟩ := R
  refine ⟨a, rs, h1, s _ _ h2, ext_old h2 h3, h4, h5, h6, h7, fun j r hr => ?_⟩
  obtain ⟨xs, ds, e1, e2, e3, e4, e5⟩ := h8 j r hr
  exact ⟨xs, ds, e1, s _ _ e2, ext_old e2 e3, e4, e5.same ext_l⟩
theorem Rw.set {k : Nat} {o : Option V} (R : Rw B G H σ i rows) (hk : k ≠ i) : Rw B G H (σ.set k o) i rows := by
  obtain ⟨a, rs, h1, h⟩ := R
  exact ⟨a, rs, by rw [List.getElem?_set_ne hk]; exact h1, h⟩
/-- row j is changed -/
theorem Rw.mut (R : Rw B G H σ i rows) {j : Nat} {a r : Addr} {rs : List Addr} {ys : List V} {ds : List PyData} (ha : σ[i]? = some (some (.ref a))) (hH : H a = some (.lst (rs.map V.ref))) (hr : rs[j]? = some r) (d : Dats G ys ds) :
    Rw B G (upd H r (.lst ys)) σ i (rows.set j ds) := by
  obtain ⟨a', rs', h1, h2, h3, h4, h5, h6, h7, h8⟩ := R
  rw [ha] at h1
  cases h1
  rw [hH] at h2
  have e : rs.map V.ref = rs'.map V.ref := HO.lst.inj (Option.some.inj h2)
  have inj : ∀ {l m : List Addr}, l.map V.ref = m.map V.ref → l = m := by
    intro l
    induction l with
    | nil => intro m h; cases m with
      | nil => rfl
      | cons _ _ => simp at h
    | cons x l ih => intro m h; cases m with
      | nil => simp at h
      | cons y m =>
        simp only [List.map_cons, List.cons.injEq, V.ref.injEq] at h
        rw [h.1, ih h.2]
  have e := inj e
  subst e
  have hra : r ≠ a := fun z => h5 (z ▸ List.mem_of_getElem? hr)
  refine ⟨a, rs, ha, by rw [upd_ne (Ne.symm hra)]; exact hH, h3, h4, h5, h6, by rw [List.length_set]; exact h7, fun k q hq => ?_⟩
  by_cases hk : k = j
  · subst hk
    rw [hr] at hq
    cases hq
    obtain ⟨xs, ds0, e1, e2, e3, e4, e5⟩ := h8 k r hr
    have hl : k < rows.length := (List.getElem?_eq_some_iff.mp e1).1
    exact ⟨ys, ds, List.getElem?_set_self hl, upd_same, e3, e4, d⟩
  · obtain ⟨xs, ds0, e1, e2, e3, e4, e5⟩ := h8 k q hq
    have hqr : q ≠ r := fun z => by
      subst z
      exact hk ((List.getElem?_inj (List.getElem?_eq_some_iff.mp hq).1 h6).mp (hq.trans hr.symm))
    exact ⟨xs, ds0, by rw [List.getElem?_set_ne (Ne.symm hk)]; exact e1, by rw [upd_ne hqr]; exact e2, e3, e4, e5⟩
open Classical in
theorem Rw.frz (R : Rw B G H σ i rows) (gh : Same G H) : ∃ (G' : Hp) (v : V), Same G G' ∧ Same G' H ∧ (∀ b o, G' b = some o → G b = some o ∨ (B b = none ∧ ∃ xs, o = .lst xs)) ∧ σ[i]? = some (some v) ∧ Dat G' v (.list (rows.map .list)) := by
  obtain ⟨a, rs, h1, h2, h3, h4, h5, h6, h7, h8⟩ := R
  have gg : Same G (fun b => match G b with
    | some o => some o
    | none => if b = a ∨ b ∈ rs then H b else none) := fun b o e => by simp only [e]
  refine ⟨fun b => match G b with
    | some o => some o
    | none => if b = a ∨ b ∈ rs then H b else none, .ref a, gg, fun b o e => ?_, fun b o e => ?_, h1, ?_⟩
  · cases g : G b with
    | some u =>
      simp only [g] at e
      rw [← e]
      exact gh _ _ g
    | none =>
      simp only [g] at e
      split at e
      · exact e
      · cases e
  · cases g : G b with
    | some u =>
      simp only [g] at e
      exact .inl e
    | none =>
      simp only [g] at e
      split at e
      · rename_i z
        rcases z with z | z
        · subst z
          rw [h2] at e
          exact .inr ⟨h4, _, (Option.some.inj e).symm⟩
        · obtain ⟨j, hj, hr⟩ := List.mem_iff_getElem.mp z
          obtain ⟨xs, ds, e1, e2, e3, e4, e5⟩ := h8 j b (by rw [List.getElem?_eq_getElem hj, hr])
          rw [e2] at e
          exact .inr ⟨e4, _, (Option.some.inj e).symm⟩
      · cases e
  · refine .lst (xs := rs.map V.ref) ?_ ?_
    · show (match G a with
        | some o => some o
        | none => if a = a ∨ a ∈ rs then H a else none) = _
      rw [h3]
      exact (if_pos (.inl rfl)).trans h2
    · have key : ∀ (l : List Addr) (m : List (List PyData)), (∀ r ∈ l, r ∈ rs) → l.length = m.length → (∀ (j : Nat) (r : Addr), l[j]? = some r → ∃ xs ds, m[j]? = some ds ∧ H r = some (.lst xs) ∧ G r = none ∧ Dats G xs ds) →
          Dats (fun b => match G b with
            | some o => some o
            | none => if b = a ∨ b ∈ rs then H b else none) (l.map V.ref) (m.map PyData.list) := by
        intro l
        induction l with
        | nil => intro m _ hl _; cases m with
          | nil => exact .nil
          | cons _ _ => cases hl
        | cons r l ih =>
          intro m hm hl h
          cases m with
          | nil => cases hl
          | cons d m =>
            refine .cons ?_ (ih m (fun q hq => hm q (List.mem_cons_of_mem _ hq)) (Nat.succ.inj hl) fun j q hq => h (j + 1) q (by simpa using hq))
            obtain ⟨xs, ds, e1, e2, e3, e5⟩ := h 0 r rfl
            cases e1
            refine .lst (xs := xs) ?_ (e5.same gg)
            show (match G r with
              | some o => some o
              | none => if r = a ∨ r ∈ rs then H r else none) = _
            rw [e3]
            exact (if_pos (.inr (hm r List.mem_cons_self))).trans e2
      exact key rs rows (fun _ h => h) h7 fun j r hr => by
        obtain ⟨xs, ds, e1, e2, e3, _, e5⟩ := h8 j r hr
        exact ⟨xs, ds, e1, e2, e3, e5⟩
theorem ER.grow (E : ER B G H σ δ) (s : Same H H') : ER B G H' σ δ := by
  refine ⟨E.len, fun i o u h1 h2 => ?_, E.ne⟩
  have z := E.at_ i o u h1 h2
  cases u with
  | any => trivial
  | pu d => exact z
  | ow ds =>
    obtain ⟨a, xs, q, h, g, b, r⟩ := z
    exact ⟨a, xs, q, s _ _ h, g, b, r⟩
theorem ER.upd2 (E : ER B G H σ δ) {r : Addr} {o : HO} (hn : ∀ (k : Nat) (ds : List PyData), δ[k]? ≠ some (.ow ds)) : ER B G (upd H r o) σ δ := by
  refine ⟨E.len, fun i u s h1 h2 => ?_, E.ne⟩
  have z := E.at_ i u s h1 h2
  cases s with
  | any => trivial
  | pu d => exact z
  | ow ds => exact absurd h2 (hn i ds)
/-! ### statements -/
/-- from rows and the slots on, ts ends with what A says; slot i bears the list of lists -/
def W2 (i : Nat) (ts : TS) (A : List (List PyData) → List Sl → Prop) (rows : List (List PyData)) (δ : List Sl) : Prop := ∀ (G0 B G H : Hp) (σ : L2.St) (D : Ends), Wd G0 B G H → ER B G H σ δ → Rw B G H σ i rows →
  (∀ G' H' σ' δ' rows', Wd G0 B G' H' → ER B G' H' σ' δ' → Rw B G' H' σ' i rows' → A rows' δ' → D.nx σ' H') → ts D σ H
variable {A : List (List PyData) → List Sl → Prop} {t u tb : TS} {tt : TT} {te tk tj : TE} {d : PyData} {ds : List PyData}
theorem w2_next (h : A rows δ) : W2 i tNext A rows δ := fun G0 B G H σ D W E R F => F G H σ δ rows W E R h
theorem w2_seq (h : W2 i t (fun rows δ => W2 i u A rows δ) rows δ) : W2 i (tSeq t u) A rows δ := fun G0 B G H σ D W E R F =>
  h G0 B G H σ _ W E R fun G' H' σ' δ' rows' W' E' R' hu => hu G0 B G' H' σ' D W' E' R' F
theorem w2_if {b : Bool} (h : EvT tt δ b) (h1 : b = true → W2 i t A rows δ) (h2 : b = false → W2 i u A rows δ) : W2 i (tIfS tt t u) A rows δ := fun G0 B G H σ D W E R F =>
  h B G H σ W.gh W.bh E _ fun H' s => by
    cases b with
    | true => rw [if_pos rfl]; exact h1 rfl G0 B _ H' σ D (W.step s) (E.step s) (R.step s) F
    | false => rw [if_neg Bool.false_ne_true]; exact h2 rfl G0 B _ H' σ D (W.step s) (E.step s) (R.step s) F
/-- rows[k].append(e) -/
theorem w2_append {k : Nat} (hn : ∀ (k : Nat) (ds : List PyData), δ[k]? ≠ some (.ow ds)) (hk : EvE tk δ (.int (k : Int))) (he : EvE te δ d) (hr : rows[k]? = some ds) (hz : ds.length < 100000) (h : A (rows.set k (ds ++ [d])) δ) :
    W2 i (tDrop (tBM K "list" rAppend (tOp (rIxL K) (tVar i) tk) (tCons te tNil))) A rows δ := fun G0 B G H σ D W E R F => by
  obtain ⟨a, rs, h1, h2, h3, h4, h5, h6, h7, h8⟩ := id R
  refine ⟨.ref a, h1, hk B G H σ W.gh W.bh E _ fun v H1 s1 r1 => ?_⟩
  have hl : k < rs.length := by rw [h7]; exact (List.getElem?_eq_some_iff.mp hr).1
  have hrs : rs[k]? = some rs[k] := List.getElem?_eq_getElem hl
  generalize rs[k] = r at hrs
  have ha1 := s1 _ _ h2
  rw [r1.eqInt]
  refine ⟨a, rs.map V.ref, k, .ref r, rfl, rfl, SqL.of ha1, ?_, ?_⟩
  · exact atI_nat (by rw [List.getElem?_map, hrs]; rfl)
  · obtain ⟨xs, ds', e1, e2, e3, e4, e5⟩ := h8 k r hrs
    rw [hr] at e1
    cases e1
    have er1 := s1 _ _ e2
    have W1 := W.step s1
    refine ⟨.inl ⟨rfl, _, .inl (.inl er1)⟩, ?_⟩
    refine he B _ H1 σ W1.gh W1.bh (E.step s1) _ fun v H2 s2 r2 => ?_
    have W2' := W1.step s2
    have R2 := (R.step s1).step s2
    have er2 := s2 _ _ er1
    refine ⟨r, xs, v, rfl, rfl, er2, by rw [e5.len]; exact Nat.lt_trans hz (by decide), ?_⟩
    have g2 : ext (ext G H H1) H1 H2 r = none := ext_old er1 (ext_old e2 e3)
    exact F _ _ σ δ _ (W2'.mut g2 e4) (((E.step s1).step s2).upd2 hn) (R2.mut h1 (s2 _ _ ha1) hrs ((e5.same (ext_l.trans ext_l)).app (.one r2))) h
/-- rows[k][j] = e -/
theorem w2_set {k j : Nat} (hn : ∀ (k : Nat) (ds : List PyData), δ[k]? ≠ some (.ow ds)) (hk : EvE tk δ (.int (k : Int))) (hj : EvE tj δ (.int (j : Int))) (he : EvE te δ d) (hr : rows[k]? = some ds) (hz : j < ds.length) (h : A (rows.set k (ds.set j d)) δ) :
    W2 i (tAsg te (gSub (tOp (rIxL K) (tVar i) tk) tj rSetL)) A rows δ := fun G0 B G H σ D W E R F => by
  obtain ⟨a, rs, h1, h2, h3, h4, h5, h6, h7, h8⟩ := id R
  refine he B G H σ W.gh W.bh E _ fun v H1 s1 r1 => ?_
  have W1 := W.step s1
  have E1 := E.step s1
  refine ⟨.ref a, h1, hk B _ H1 σ W1.gh W1.bh E1 _ fun vk H2 s2 r2 => ?_⟩
  have W2' := W1.step s2
  have E2 := E1.step s2
  have hl : k < rs.length := by rw [h7]; exact (List.getElem?_eq_some_iff.mp hr).1
  have hrs : rs[k]? = some rs[k] := List.getElem?_eq_getElem hl
  generalize rs[k] = r at hrs
  have ha2 := s2 _ _ (s1 _ _ h2)
  rw [r2.eqInt]
  refine ⟨a, rs.map V.ref, k, .ref r, rfl, rfl, SqL.of ha2, ?_, ?_⟩
  · exact atI_nat (by rw [List.getElem?_map, hrs]; rfl)
  · obtain ⟨xs, ds', e1, e2, e3, e4, e5⟩ := h8 k r hrs
    rw [hr] at e1
    cases e1
    refine hj B _ H2 σ W2'.gh W2'.bh E2 _ fun vj H3 s3 r3 => ?_
    have er3 := s3 _ _ (s2 _ _ (s1 _ _ e2))
    have W3 := W2'.step s3
    have R3 := ((R.step s1).step s2).step s3
    rw [r3.eqInt]
    refine ⟨r, xs, j, j, rfl, rfl, er3, ?_, ?_⟩
    · unfold ixN
      rw [e5.len, if_pos (by omega), if_pos (by omega)]
      simp
    · have g3 : ext (ext (ext G H H1) H1 H2) H2 H3 r = none := ext_old (s2 _ _ (s1 _ _ e2)) (ext_old (s1 _ _ e2) (ext_old e2 e3))
      exact F _ _ σ δ _ (W3.mut g3 e4) ((E2.step s3).upd2 hn) (R3.mut h1 (s3 _ _ ha2) hrs ((e5.same ((ext_l.trans ext_l).trans ext_l)).set j (r1.same (ext_l.trans ext_l)))) h
/-- a target of a walk: not slot i -/
def GA2 (g : TG) (i : Nat) (δ : List Sl) (d : PyData) (δ' : List Sl) : Prop := ∀ (B G H : Hp) (σ : L2.St) (x : V) (Q : L2.St → Hp → Prop), Same G H → Same B H → ER B G H σ δ → Dat G x d → (∀ σ', ER B G H σ' δ' → (∀ rows, Rw B G H σ i rows → Rw B G H σ' i rows) → Q σ' H) → g x σ H Q
theorem ga2_name {k : Nat} (hk : k ≠ i := by decide) : GA2 (gName k) i δ d (δ.set k (.pu d)) := fun B G H σ x Q e1 e2 E r q => q _ (E.set r) fun rows R => R.set hk
theorem ga2_pair {k l : Nat} {d1 d2 : PyData} (hk : k ≠ i := by decide) (hl : l ≠ i := by decide) : GA2 (gTup K 2 (gCons (gName k) (gCons (gName l) gNil))) i δ (.tuple [d1, d2]) ((δ.set k (.pu d1)).set l (.pu d2)) := fun B G H σ x Q e1 e2 E r q => by
  obtain ⟨a, xs, rfl, g, r'⟩ := r.inTup
  cases r' with
  | cons h1 r' =>
    cases r' with
    | cons h2 r' =>
      cases r'
      exact ⟨a, _, rfl, SqT.of (e1 _ _ g), rfl, _, _, rfl, _, _, rfl, rfl, q _ ((E.set h1).set h2) fun rows R => (R.set hk).set hl⟩
theorem w2_for {wi : TI} {g : TG} (hi : IA wi δ ds) (I : Nat → List (List PyData) → List Sl → Prop) (h0 : I 0 rows δ)
    (hs : ∀ (k : Nat) (d : PyData) (rows : List (List PyData)) (δ' : List Sl), ds[k]? = some d → I k rows δ' → ∃ δ2, GA2 g i δ' d δ2 ∧ W2 i tb (I (k + 1)) rows δ2) (hd : ∀ rows δ', I ds.length rows δ' → A rows δ') : W2 i (tFor wi g tb) A rows δ := fun G0 B G H σ D W E R F =>
  hi B G H σ W.gh W.bh E _ fun J H1 s1 ja => by
    have W1 := W.step s1
    refine ⟨fun k m σ Hx => m + k = ds.length ∧ ∃ G' δ' rows', Wd (ext G H H1) B G' Hx ∧ ER B G' Hx σ δ' ∧ Rw B G' Hx σ i rows' ∧ I k rows' δ', ⟨ds.length, by omega, _, δ, rows, Wd.refl W1.gh W1.bh, E.step s1, R.step s1, h0⟩, fun k m σ2 H2 hw => ?_⟩
    obtain ⟨hm, G', δ', rows', W', E', R', hI⟩ := hw
    by_cases hlt : k < ds.length
    · have hdd : ds[k]? = some ds[k] := List.getElem?_eq_getElem hlt
      generalize ds[k] = d at hdd
      obtain ⟨go, yl⟩ := (ja k H2 (W'.g0.trans W'.gh)).1 _ hdd
      refine .inr ⟨go, fun σ3 H3 => ∃ m', m' < m ∧ m' + (k + 1) = ds.length ∧ ∃ G' δ' rows', Wd (ext G H H1) B G' H3 ∧ ER B G' H3 σ3 δ' ∧ Rw B G' H3 σ3 i rows' ∧ I (k + 1) rows' δ', fun σ3 H3 ⟨m', h1, h2⟩ => ⟨m', h1, h2⟩, fun x H3 y => ?_⟩
      obtain ⟨s3, rx⟩ := yl x H3 y
      have W3 := W'.step s3
      obtain ⟨δ2, hg, hb⟩ := hs k d rows' δ' hdd hI
      refine hg B _ H3 σ2 x _ W3.gh W3.bh (E'.step s3) (rx.same (ext_mono W'.g0 W'.gh)) fun σ4 E4 keep => ?_
      exact hb _ B _ H3 σ4 _ W3 E4 (keep _ (R'.step s3)) fun G5 H5 σ5 δ5 rows5 W5 E5 R5 h5 => ⟨m - 1, by omega, by omega, G5, δ5, rows5, W5, E5, R5, h5⟩
    · have ei : k = ds.length := by omega
      subst ei
      exact .inl ⟨(ja _ H2 (W'.g0.trans W'.gh)).2 (Nat.le_refl _), F G' H2 σ2 δ' rows' (W1.trans W') E' R' (hd rows' δ' hI)⟩
/-- an expression that gives a new list of plain values -/
def EvN (te : TE) (δ : List Sl) (ds : List PyData) : Prop := ∀ (B G H : Hp) (σ : L2.St), Same G H → Same B H → ER B G H σ δ → ∀ Q : VK, (∀ p xs H', Same H H' → H p = none → H' p = some (.lst xs) → Dats G xs ds → Q (.ref p) H') → te σ H Q
theorem evn_nil : EvN (tLst tNil) δ [] := fun B G H σ e1 e2 E Q q => ⟨by decide, fun p hp => q p [] _ (same_new hp) hp upd_same .nil⟩
theorem evn_rep {n : Nat} {b : Bool} (hk : EvE tk δ (.int (n : Int))) (hz : n ≤ 100000) : EvN (tOp rRep (tLst (tCons (tC (.bl b)) tNil)) tk) δ (List.replicate n (.bool b)) := fun B G H σ e1 e2 E Q q => by
  refine ⟨by show 1 ≤ sizeLine; decide, fun p hp => ?_⟩
  have s1 := same_new (o := .lst [.bl b]) hp
  refine hk B _ _ σ (ext_r e1 s1) (e2.trans s1) (E.step s1) _ fun v H2 s2 r2 => ?_
  rw [r2.eqInt]
  refine ⟨p, n, [.bl b], rfl, rfl, s2 _ _ upd_same, by omega, by omega, ?_, fun l hl => ?_⟩
  · have hs : sizeLine = 16777216 := sizeLine_eq
    rw [hs]
    simp only [List.length_singleton, Nat.one_mul, Int.toNat_natCast]
    omega
  · refine q l _ _ ((s1.trans s2).trans (same_new hl)) ((s1.trans s2).free hl) upd_same ?_
    rw [Int.toNat_natCast]
    have key : ∀ k : Nat, Dats G (List.replicate k [V.bl b]).flatten (List.replicate k (.bool b)) := by
      intro k
      induction k with
      | zero => exact .nil
      | succ k ih =>
        rw [List.replicate_succ, List.replicate_succ, List.flatten_cons]
        exact .cons (.bl b) ih
    exact key n
theorem ifT {P Q : Prop} (h : P) : (if true = true then P else Q) := by rw [if_pos rfl]; exact h
/-- rows = [[..] for k in range(n)] -/
theorem w2_make {wi : TI} {g : TG} {vs : List Nat} {base : List PyData} {ts : TS} (hb : base.all flat1 = true) (hi : IA wi δ ds) (hz : ds.length ≤ 100000)
    (hs : ∀ (k : Nat) (d : PyData), ds[k]? = some d → ∃ δ2, GAw g vs (wipeA δ vs) d δ2 ∧ EvN te δ2 base)
    (hu : W2 i ts A (List.replicate ds.length base) (δ.set i .any)) (hil : i < δ.length) :
    ∀ (G0 B G H : Hp) (σ : L2.St) (D : Ends), Wd G0 B G H → ER B G H σ δ → (∀ G' H' σ' δ' rows', Wd G0 B G' H' → ER B G' H' σ' δ' → Rw B G' H' σ' i rows' → A rows' δ' → D.nx σ' H') → tSeq (tAsg (tLc wi g tYes te vs) (gName i)) ts D σ H := fun G0 B G H σ D W E F =>
  hi B G H σ W.gh W.bh E _ fun J H1 s1 ja => by
    intro Dd hD
    have W1 := W.step s1
    have E1 := E.step s1
    have GD : ext G H H1 Dd = none := W1.gh.free hD
    refine ⟨fun k m H2 => m + k = ds.length ∧ Same H1 H2 ∧ ∃ rs : List Addr, rs.length = k ∧ H2 Dd = some (.lst (rs.map V.ref)) ∧ Dd ∉ rs ∧ rs.Nodup ∧ ∀ r ∈ rs, H1 r = none ∧ ∃ xs, H2 r = some (.lst xs) ∧ Dats (ext G H H1) xs base,
      ⟨ds.length, by omega, same_new hD, [], rfl, upd_same, by simp, List.nodup_nil, fun r hr => by cases hr⟩, fun k m H2 hw => ?_⟩
    obtain ⟨hm, s2, rs, hl, hDd, hnD, nd, hrs⟩ := hw
    have g2 : Same (ext G H H1) H2 := W1.gh.trans s2
    have b2 : Same B H2 := W1.bh.trans s2
    by_cases hlt : k < ds.length
    · have hd : ds[k]? = some ds[k] := List.getElem?_eq_getElem hlt
      obtain ⟨go, yl⟩ := (ja k H2 g2).1 _ hd
      refine .inr ⟨go, fun H3 => ∃ m', m' < m ∧ m' + (k + 1) = ds.length ∧ Same H1 H3 ∧ ∃ rs : List Addr, rs.length = k + 1 ∧ H3 Dd = some (.lst (rs.map V.ref)) ∧ Dd ∉ rs ∧ rs.Nodup ∧ ∀ r ∈ rs, H1 r = none ∧ ∃ xs, H3 r = some (.lst xs) ∧ Dats (ext G H H1) xs base,
        fun H3 ⟨m', h1, h2⟩ => ⟨m', h1, h2⟩, fun x H3 y => ?_⟩
      obtain ⟨s3, rx⟩ := yl x H3 y
      have s23 := s2.trans s3
      have E3 : ER B (ext (ext G H H1) H2 H3) H3 (wipe σ vs) (wipeA δ vs) := ((E1.wipe vs).grow s2).step s3
      obtain ⟨δ2, hg, he⟩ := hs k _ hd
      refine hg B _ H3 _ x _ (ext_r g2 s3) (b2.trans s3) E3 rx fun σ2 E4 hw2 => ⟨hw2.trans wipe_wipe, ?_⟩
      refine evt_yes B _ H3 σ2 (ext_r g2 s3) (b2.trans s3) E4 _ fun HY sY => ?_
      rw [if_pos rfl]
      have s3 : Same H2 HY := s3.trans sY
      have s23 : Same H1 HY := s2.trans s3
      refine he B _ HY σ2 (ext_r (ext_r g2 (fun b o e => by exact (by assumption : Same H2 H3) b o e)) sY) (b2.trans s3) (E4.step sY) _ fun p xs H4 s4 hp hp4 hx => ?_
      have hD4 : H4 Dd = some (.lst (rs.map V.ref)) := s4 _ _ (s3 _ _ hDd)
      have hpD : p ≠ Dd := fun z => by subst z; rw [s3 _ _ hDd] at hp; cases hp
      have hprs : p ∉ rs := fun z => by
        obtain ⟨_, ys, e, _⟩ := hrs p z
        rw [s3 _ _ e] at hp
        cases hp
      refine ⟨rs.map V.ref, hD4, ?_, m - 1, by omega, by omega, ?_, rs ++ [p], by rw [List.length_append, hl]; rfl, ?_, ?_, ?_, fun r hr => ?_⟩
      · rw [List.length_map, hl]
        exact Nat.lt_of_lt_of_le hlt (Nat.le_trans hz (by decide))
      · exact same_mut (s23.trans s4) hD
      · rw [upd_same, List.map_append]
        rfl
      · intro z
        rcases List.mem_append.mp z with z | z
        · exact hnD z
        · exact hpD (List.mem_singleton.mp z).symm
      · exact List.nodup_append.mpr ⟨nd, by simp, fun a ha b hb => by rw [List.mem_singleton.mp hb]; exact fun e => hprs (e ▸ ha)⟩
      · rcases List.mem_append.mp hr with z | z
        · obtain ⟨n1, ys, e, dd⟩ := hrs r z
          have hrD : r ≠ Dd := fun q => hnD (q ▸ z)
          exact ⟨n1, ys, by rw [upd_ne hrD]; exact s4 _ _ (s3 _ _ e), dd⟩
        · have er := List.mem_singleton.mp z
          subst er
          refine ⟨s23.free hp, xs, by rw [upd_ne hpD]; exact hp4, ?_⟩
          have flatB : Dats (ext G H H1) xs base := by
            exact flat1_dats hb hx
          exact flatB
    · have ei : k = ds.length := by omega
      subst ei
      refine .inl ⟨(ja _ H2 g2).2 (Nat.le_refl _), ?_⟩
      have W2' : Wd G0 B (ext G H H1) H2 := ⟨W1.g0, g2, b2, W1.fr⟩
      have hσ : i < σ.length := by rw [E.len]; exact hil
      refine hu G0 B (ext G H H1) H2 _ D W2' ((E1.grow s2).forget i _) ⟨Dd, rs, List.getElem?_set_self hσ, hDd, GD, W1.bh.free hD, hnD, nd, by rw [hl, List.length_replicate], fun j r hr => ?_⟩ F
      obtain ⟨n1, xs, e, dd⟩ := hrs r (List.mem_of_getElem? hr)
      have hj : j < ds.length := by rw [← hl]; exact (List.getElem?_eq_some_iff.mp hr).1
      exact ⟨xs, base, by rw [List.getElem?_replicate, if_pos hj], e, W1.gh.free n1, W1.bh.free n1, dd⟩
end
end DL
end
section
set_option Elab.async false
set_option linter.all false
set_option warn.classDefReducibility false
set_option maxRecDepth 100000
set_option maxHeartbeats 4000000
/-! DM: neighbour_rows, _law_matrix: lists of lists that are changed within. -/
namespace DL
open PySem L2 GX PyProof.Rows TLX
theorem er_one {B G H : Hp} {σ : L2.St} {n i : Nat} {v : V} {d : PyData} (hl : σ.length = n) (hv : σ[i]? = some (some v)) (r : Dat G v d) : ER B G H σ ((List.replicate n Sl.any).set i (.pu d)) := by
  refine ⟨by rw [List.length_set, List.length_replicate, hl], fun j o s h1 h2 => ?_, fun j k a es fs _ h1 _ _ _ => ?_⟩
  · rcases set_get h2 with ⟨rfl, _, e⟩ | ⟨_, h2⟩
    · subst e
      rw [hv] at h1
      cases h1
      exact ⟨v, rfl, r⟩
    · rw [List.getElem?_replicate] at h2
      split at h2
      · cases h2; trivial
      · cases h2
  · rcases set_get h1 with ⟨_, _, e⟩ | ⟨_, h1⟩
    · cases e
    · rw [List.getElem?_replicate] at h1
      split at h1
      · cases h1
      · cases h1
def appRow (rows : List (List PyData)) (k : Nat) (d : PyData) : Option (List (List PyData)) := match rows[k]? with
  | some ds => if ds.length < 100000 then some (rows.set k (ds ++ [d])) else none
  | none => none
def nrStep (rows : List (List PyData)) (d : PyData) : Option (List (List PyData)) := match d with
  | .tuple [.int (.ofNat u), .int (.ofNat v)] => match appRow rows u (.int v) with
    | some r1 => if u = v then some r1 else appRow r1 v (.int u)
    | none => none
  | _ => none
def setRow (rows : List (List PyData)) (k j : Nat) : Option (List (List PyData)) := match rows[k]? with
  | some ds => if j < ds.length then some (rows.set k (ds.set j (.bool true))) else none
  | none => none
def mxStep (rows : List (List PyData)) (d : PyData) : Option (List (List PyData)) := match d with
  | .tuple [.int (.ofNat u), .int (.ofNat v)] => match setRow rows u v with
    | some r1 => setRow r1 v u
    | none => none
  | _ => none
def foldO {α β : Type} (f : α → β → Option α) : List β → α → Option α
  | [], a => some a
  | b :: bs, a => match f a b with
    | some a' => foldO f bs a'
    | none => none
section
variable {P : Program} {w : World} {K : PySem.W.Frag} {mg : Str → Option Value} {base : Heap} {C fI : Addr} {B G H : Hp} {σ : L2.St} {i : Nat}
abbrev retNR (K : PySem.W.Frag) : TS := tSeq (tRet (tLc (iList K (tVar 1)) (gName 5) tYes (tCB (rSortedI K) (tCons (tVar 5) tNil)) [5])) tNext
def inNR (K : PySem.W.Frag) (C : Addr) : RS C E0 (retNR K) := inferInstance
def Fneighbour_rows (K : PySem.W.Frag) (C : Addr) : PF := fun ds => match ds with
  | [.tuple [.int (.ofNat n), .tuple es]] => if n ≤ 100000 then match foldO nrStep es (List.replicate n []) with
      | some rows => outF0 ((inNR K C).run ((List.replicate 6 Sl.any).set 1 (.pu (.list (rows.map .list)))))
      | none => .bad
    else .bad
  | _ => .bad
abbrev retMX : TS := tSeq (tRet (tVar 1)) tNext
def inMX (C : Addr) : RS C E0 retMX := inferInstance
def Flaw_matrix (K : PySem.W.Frag) (C : Addr) : PF := fun ds => match ds with
  | [.tuple [.int (.ofNat n), .tuple es]] => if n ≤ 10000 then match foldO mxStep es (List.replicate n (List.replicate n (.bool false))) with
      | some rows => outF0 ((inMX C).run ((List.replicate 4 Sl.any).set 1 (.pu (.list (rows.map .list)))))
      | none => .bad
    else .bad
  | _ => .bad
/-- what stands behind the loop: the list of lists becomes data -/
theorem w2_end {n : Nat} {ts : TS} {rows : List (List PyData)} {δ : List Sl} {f : Rn PyData} {HS GS : Hp} {Q : VK} {EX : XK} (inst : RS C E0 ts) (hq : match f with
      | .bad => False
      | .ok d => ∀ v H', Same HS H' → Dat (ext GS HS H') v d → Q v H'
      | .ex m => XT C EX HS m) (hf : f = outF0 (inst.run ((List.replicate n Sl.any).set i (.pu (.list (rows.map .list)))))) (W : Wd GS HS G H) (E : ER HS G H σ δ) (R : Rw HS G H σ i rows) (hl : δ.length = n) :
    ts { nx := fun _ H' => Q .non H', rt := Q } σ H := by
  obtain ⟨G', v, g1, g2, fr, hv, r⟩ := R.frz W.gh
  have W' := W.frz g1 g2 fr
  have E' : ER HS G' H σ ((List.replicate n Sl.any).set i (.pu (.list (rows.map .list)))) := er_one (by rw [E.len, hl]) hv r
  have hs := inst.sd ((List.replicate n Sl.any).set i (.pu (.list (rows.map .list))))
  rw [hf] at hq
  revert hq hs
  cases inst.run ((List.replicate n Sl.any).set i (.pu (.list (rows.map .list)))) with
  | bad => intro q; exact q.elim
  | bk _ => intro q; exact q.elim
  | ct _ => intro q; exact q.elim
  | ex _ => intro q; exact q.elim
  | nx δ' =>
    exact fun q hs => hs (by simp) GS HS G' H _ _ W' E' ⟨fun G' H' σ δ W E hn => q .non H' W.bh .non, fun _ _ _ _ _ _ z => (by cases z), fun _ _ _ _ _ _ z => (by cases z), fun _ _ _ _ _ _ z => (by cases z), fun _ z => (by cases z)⟩
  | rt d =>
    exact fun q hs => hs (by simp) GS HS G' H _ _ W' E' ⟨fun _ _ _ _ _ _ z => (by cases z), fun H' v d' _ e2 rd hd => (by cases hd; exact q v H' e2 rd), fun _ _ _ _ _ _ z => (by cases z), fun _ _ _ _ _ _ z => (by cases z), fun _ z => (by cases z)⟩
theorem foldO_drop {α β : Type} {f : α → β → Option α} {l : List β} {k : Nat} {b : β} {a a' : α} (h : foldO f (l.drop k) a = some a') (hb : l[k]? = some b) : ∃ a1, f a b = some a1 ∧ foldO f (l.drop (k + 1)) a1 = some a' := by
  have hk : k < l.length := (List.getElem?_eq_some_iff.mp hb).1
  have ek : l.drop k = b :: l.drop (k + 1) := by
    rw [List.drop_eq_getElem_cons hk]
    rw [List.getElem?_eq_getElem hk] at hb
    rw [Option.some.inj hb]
  rw [ek] at h
  unfold foldO at h
  cases e : f a b with
  | none => rw [e] at h; cases h
  | some a1 => rw [e] at h; exact ⟨a1, rfl, h⟩
theorem noow {δ : List Sl} (h : δ.all (fun s => match s with | .ow _ => false | _ => true) = true) : ∀ (k : Nat) (ds : List PyData), δ[k]? ≠ some (.ow ds) := fun k ds e => by
  have := List.all_eq_true.mp h _ (List.mem_of_getElem? e)
  simp at this
theorem okneighbour_rows {f : PF} (T : Tx mg) (D : DefAt K mg (K16.top 8) "neighbour_rows" []) (hf : ∀ ds, ds.length = 1 → Ref (f ds) (Fneighbour_rows K C ds)) : Cal P w K mg base 1 "neighbour_rows" [] (spF C 1 f) := by
  obtain ⟨a, fd, h1, F⟩ := D
  refine ⟨a, fd, ["web"], [], h1, F.kp, ?_, F.bindsN (fun _ _ _ _ _ _ us hl => match us, hl with | [_], _ => rfl), .nil⟩
  refine F.ok scneighbour_rows (fun vs H Q E h => spF_len vs H Q E h) fun cdv A outer s H vs Q E hr h => ⟨rdneighbour_rows K C, bodyneighbour_rows T a cdv A outer s H E hr, ?_⟩
  obtain ⟨ds, G, hn, e, r, q⟩ := h
  rcases hf ds hn with z | z
  · rw [z] at q; exact q.elim
  · unfold Fneighbour_rows at z
    split at z
    · rename_i n es
      split at z
      · rename_i hz
        split at z
        · rename_i rows hrows
          have W0 := Wd.refl e (Same.refl H)
          have E0' : ER H G H (L2.start Nneighbour_rows vs) _ := er_start r
          refine w2_make (i := 1) (δ := startA 6 [.tuple [.int (.ofNat n), .tuple es]]) (base := []) (ds := rangeD 0 n) (A := fun rows' δ' => rows' = rows ∧ δ'.length = 6) (te := tLst tNil) rfl
            (ia_range1 (n := n) (eva_cons (eve_op (eve_var rfl) eve_int (opd_ixT (i := 0) rfl)) eva_nil) (by omega)) (by rw [rangeD_len]; omega)
            (fun k d hd => ⟨_, gaw_name (by decide), evn_nil⟩) ?_ (by simp [startA]) G H G H _ { nx := fun σ' H' => retNR K { nx := fun _ H' => Q .non H', rt := Q } σ' H', rt := Q } W0 E0' ?_
          · rw [rangeD_len]
            refine w2_for (ds := es) (ia_tup (eve_op (eve_var rfl) eve_int (opd_ixT (i := 1) rfl))) (fun k rows' δ' => foldO nrStep (es.drop k) rows' = some rows ∧ ∃ s2 s3, δ' = [.pu (.tuple [.int (.ofNat n), .tuple es]), .any, s2, s3, .any, .any])
              ⟨by rw [List.drop_zero]; exact hrows, .any, .any, rfl⟩ (fun k d rows' δ' hd hI => ?_) (fun rows' δ' hI => ?_)
            · obtain ⟨hfo, s2, s3, rfl⟩ := hI
              obtain ⟨rows1, hst, hrest⟩ := foldO_drop hfo hd
              unfold nrStep at hst
              split at hst
              · rename_i u v
                split at hst
                · rename_i r1 ha
                  refine ⟨_, ga2_pair, w2_seq ?_⟩
                  unfold appRow at ha
                  split at ha
                  · rename_i ds1 hr1
                    split at ha
                    · rename_i hl1
                      cases ha
                      have no : ∀ (k : Nat) (ds : List PyData), ([Sl.pu (.tuple [.int (.ofNat n), .tuple es]), .any, .pu (.int (.ofNat u)), .pu (.int (.ofNat v)), .any, .any] : List Sl)[k]? ≠ some (.ow ds) := noow rfl
                      refine w2_append (k := u) no (eve_var rfl) (eve_var rfl) hr1 hl1 ?_
                      by_cases huv : u = v
                      · rw [if_pos huv] at hst
                        cases hst
                        refine w2_seq (w2_if (evt_test (eve_op (eve_var rfl) (eve_var rfl) opd_neI)) (fun hb => ?_) (fun _ => w2_next (w2_next ⟨hrest, _, _, rfl⟩)))
                        rw [huv] at hb
                        simp at hb
                      · rw [if_neg huv] at hst
                        unfold appRow at hst
                        split at hst
                        · rename_i ds2 hr2
                          split at hst
                          · rename_i hl2
                            cases hst
                            refine w2_seq (w2_if (evt_test (eve_op (eve_var rfl) (eve_var rfl) opd_neI)) (fun _ => w2_seq (w2_append (k := v) no (eve_var rfl) (eve_var rfl) hr2 hl2 (w2_next (w2_next ⟨hrest, _, _, rfl⟩)))) (fun hb => ?_))
                            simp at hb
                            exact absurd (by omega) huv
                          · cases hst
                        · cases hst
                    · cases ha
                  · cases ha
                · cases hst
              · cases hst
            · obtain ⟨hfo, s2, s3, rfl⟩ := hI
              rw [List.drop_length] at hfo
              exact ⟨(Option.some.inj hfo), rfl⟩
          · intro G' H' σ' δ' rows' W' E' R' hA
            obtain ⟨rfl, hl⟩ := hA
            exact w2_end (inNR K C) q (z.symm) W' E' R' hl
        · rw [← z] at q; exact q.elim
      · rw [← z] at q; exact q.elim
    · rw [← z] at q; exact q.elim
theorem oklaw_matrix {f : PF} (T : Tx mg) (D : DefAt K mg (K16.top 47) "_law_matrix" []) (hf : ∀ ds, ds.length = 1 → Ref (f ds) (Flaw_matrix K C ds)) : Cal P w K mg base 1 "_law_matrix" [] (spF C 1 f) := by
  obtain ⟨a, fd, h1, F⟩ := D
  refine ⟨a, fd, ["_law_web_here"], [], h1, F.kp, ?_, F.bindsN (fun _ _ _ _ _ _ us hl => match us, hl with | [_], _ => rfl), .nil⟩
  refine F.ok sclaw_matrix (fun vs H Q E h => spF_len vs H Q E h) fun cdv A outer s H vs Q E hr h => ⟨rdlaw_matrix K C, bodylaw_matrix T a cdv A outer s H E hr, ?_⟩
  obtain ⟨ds, G, hn, e, r, q⟩ := h
  rcases hf ds hn with z | z
  · rw [z] at q; exact q.elim
  · unfold Flaw_matrix at z
    split at z
    · rename_i n es
      split at z
      · rename_i hz
        split at z
        · rename_i rows hrows
          have W0 := Wd.refl e (Same.refl H)
          have E0' : ER H G H (L2.start Nlaw_matrix vs) _ := er_start r
          refine w2_make (i := 1) (δ := startA 4 [.tuple [.int (.ofNat n), .tuple es]]) (base := List.replicate n (.bool false)) (ds := rangeD 0 n) (A := fun rows' δ' => rows' = rows ∧ δ'.length = 4) (te := tOp rRep (tLst (tCons (tC (.bl false)) tNil)) (tOp (rIxT K) (tVar 0) (tC (.int 0)))) (by rw [List.all_replicate]; simp [flat1])
            (ia_range1 (n := n) (eva_cons (eve_op (eve_var rfl) eve_int (opd_ixT (i := 0) rfl)) eva_nil) (by omega)) (by rw [rangeD_len]; omega)
            (fun k d hd => ⟨_, gaw_name (by decide), evn_rep (n := n) (eve_op (eve_var rfl) eve_int (opd_ixT (i := 0) rfl)) (by omega)⟩) ?_ (by simp [startA]) G H G H _ { nx := fun σ' H' => retMX { nx := fun _ H' => Q .non H', rt := Q } σ' H', rt := Q } W0 E0' ?_
          · rw [rangeD_len]
            refine w2_for (ds := es) (ia_tup (eve_op (eve_var rfl) eve_int (opd_ixT (i := 1) rfl))) (fun k rows' δ' => foldO mxStep (es.drop k) rows' = some rows ∧ ∃ s2, δ' = [.pu (.tuple [.int (.ofNat n), .tuple es]), .any, s2, .any])
              ⟨by rw [List.drop_zero]; exact hrows, .any, rfl⟩ (fun k d rows' δ' hd hI => ?_) (fun rows' δ' hI => ?_)
            · obtain ⟨hfo, s2, rfl⟩ := hI
              obtain ⟨rows1, hst, hrest⟩ := foldO_drop hfo hd
              unfold mxStep at hst
              split at hst
              · rename_i u v
                split at hst
                · rename_i r1 ha
                  unfold setRow at ha hst
                  split at ha
                  · rename_i ds1 hr1
                    split at ha
                    · rename_i hl1
                      cases ha
                      split at hst
                      · rename_i ds2 hr2
                        split at hst
                        · rename_i hl2
                          cases hst
                          have no : ∀ (k : Nat) (ds : List PyData), ([Sl.pu (.tuple [.int (.ofNat n), .tuple es]), .any, .pu (.tuple [.int (.ofNat u), .int (.ofNat v)]), .any] : List Sl)[k]? ≠ some (.ow ds) := noow rfl
                          refine ⟨_, ga2_name, w2_seq (w2_set (k := u) (j := v) no ?_ ?_ eve_bl hr1 hl1 (w2_seq (w2_set (k := v) (j := u) no ?_ ?_ eve_bl hr2 hl2 (w2_next ⟨hrest, _, rfl⟩))))⟩
                          · exact eve_op (eve_var rfl) eve_int (opd_ixT (i := 0) rfl)
                          · exact eve_op (eve_var rfl) eve_int (opd_ixT (i := 1) rfl)
                          · exact eve_op (eve_var rfl) eve_int (opd_ixT (i := 1) rfl)
                          · exact eve_op (eve_var rfl) eve_int (opd_ixT (i := 0) rfl)
                        · cases hst
                      · cases hst
                    · cases ha
                  · cases ha
                · cases hst
              · cases hst
            · obtain ⟨hfo, s2, rfl⟩ := hI
              rw [List.drop_length] at hfo
              exact ⟨(Option.some.inj hfo), rfl⟩
          · intro G' H' σ' δ' rows' W' E' R' hA
            obtain ⟨rfl, hl⟩ := hA
            exact w2_end (inMX C) q (z.symm) W' E' R' hl
        · rw [← z] at q; exact q.elim
      · rw [← z] at q; exact q.elim
    · rw [← z] at q; exact q.elim
end
end DL
end
section
set_option Elab.async false
set_option linter.all false
set_option warn.classDefReducibility false
set_option synthInstance.maxSize 1000000
set_option synthInstance.maxHeartbeats 4000000
set_option maxRecDepth 100000
set_option maxHeartbeats 4000000
/-! DT: the defs that catch, and what hands out a list that is changed by the caller. -/
namespace DL
open PySem L2 GX PyProof.Rows TLX
/-! ### promises about new objects -/
abbrev noH : Hp := fun _ => none
def spFr (C : Addr) (n : Nat) (f : PF) : Sp := fun vs H Q E => ∃ ds G, ds.length = n ∧ Same G H ∧ Dats G vs ds ∧ match f ds with
  | .bad => False
  | .ok d => ∀ v H', Same H H' → Dat (ext noH H H') v d → Q v H'
  | .ex m => XT C E H m
theorem spFr_len {C : Addr} {n : Nat} {f : PF} (vs : List V) (H : Hp) (Q : VK) (E : XK) (h : spFr C n f vs H Q E) : vs.length = n := by
  obtain ⟨ds, G, h1, _, r, _⟩ := h
  rw [r.len, h1]
theorem noH_ext {G H H' : Hp} (e : Same G H) : Same (ext noH H H') (ext G H H') := fun b o q => by
  unfold ext at q ⊢
  simp only at q
  cases z : H b with
  | some u => rw [z] at q; cases q
  | none =>
    rw [z] at q
    rw [e.free z]
    exact q
theorem spF_fr {C : Addr} {n : Nat} {f : PF} (vs : List V) (H : Hp) (Q : VK) (E : XK) (h : spF C n f vs H Q E) : spFr C n f vs H Q E := by
  obtain ⟨ds, G, h1, e, r, q⟩ := h
  refine ⟨ds, G, h1, e, r, ?_⟩
  revert q
  cases f ds with
  | bad => exact id
  | ex m => exact id
  | ok d => exact fun q v H' s rd => q v H' s (rd.same (noH_ext e))
section
variable {P : Program} {w : World} {K : PySem.W.Frag} {mg : Str → Option Value} {base : Heap} {k n : Nat} {x : Str} {dvs : List V} {sp sp' : Sp} {ks : List Str}
theorem Cal.mono (h : ∀ vs H Q E, sp' vs H Q E → sp vs H Q E) (c : Cal P w K mg base k x dvs sp) : Cal P w K mg base k x dvs sp' := by
  obtain ⟨f, fd, ps, ds, h1, h2, h3, h4, h5⟩ := c.ex
  exact ⟨f, fd, ps, ds, h1, h2, ⟨fun vs H Q E z => h3.len vs H Q E (h vs H Q E z), fun A outer s H args us vs Q E hr e0 hb r z => h3.run A outer s H args us vs Q E hr e0 hb r (h vs H Q E z)⟩, h4, h5⟩
theorem CalN.mono (h : ∀ vs H Q E, sp' vs H Q E → sp vs H Q E) (c : CalN P w K mg base k x n ks sp) : CalN P w K mg base k x n ks sp' := by
  obtain ⟨f, fd, ps, g, h1, h2, h3, h4⟩ := c.ex
  exact ⟨f, fd, ps, g, h1, h2, ⟨fun vs H Q E z => h3.len vs H Q E (h vs H Q E z), fun A outer s H args us vs Q E hr e0 hb r z => h3.run A outer s H args us vs Q E hr e0 hb r (h vs H Q E z)⟩, h4⟩
end
/-! ### a comprehension gives a new list -/
def EvF (te : TE) (δ : List Sl) (ds : List PyData) : Prop := ∀ (B G H : Hp) (σ : L2.St), Same G H → Same B H → ER B G H σ δ → ∀ Q : VK, (∀ p xs H', Same H H' → H p = none → H' p = some (.lst xs) → Dats (ext G H H') xs ds → Q (.ref p) H') → te σ H Q
theorem eve_lcF {δ : List Sl} {wi : TI} {g : TG} {tt : TT} {te : TE} {vs : List Nat} {ds : List PyData} (p : PyData → Bool) (f : PyData → PyData) (hi : IA wi δ ds) (hz : ds.length ≤ 100000)
    (hs : ∀ (i : Nat) (d : PyData), ds[i]? = some d → ∃ δ2, GAw g vs (wipeA δ vs) d δ2 ∧ EvT tt δ2 (p d) ∧ (p d = true → EvE te δ2 (f d))) : EvF (tLc wi g tt te vs) δ ((ds.filter p).map f) := fun B G H σ e1 e2 E Q q =>
  hi B G H σ e1 e2 E _ fun J H1 s1 ja => by
    intro Dd hD
    have eg1 := ext_r e1 s1
    have E1 := E.step s1
    have GD : ext G H H1 Dd = none := eg1.free hD
    refine ⟨fun i m H2 => m + i = ds.length ∧ ∃ G' xs, Wd (ext G H H1) H1 G' H2 ∧ H2 Dd = some (.lst xs) ∧ G' Dd = none ∧ Dats G' xs (((ds.take i).filter p).map f),
      ⟨ds.length, by omega, ext G H H1, [], (Wd.refl eg1 (Same.refl H1)).mut GD hD, upd_same, GD, .nil⟩, fun i m H2 hw => ?_⟩
    obtain ⟨hm, G', xs, W, hDd, gD, r⟩ := hw
    by_cases hlt : i < ds.length
    · have hd : ds[i]? = some ds[i] := List.getElem?_eq_getElem hlt
      obtain ⟨go, yl⟩ := (ja i H2 (W.g0.trans W.gh)).1 _ hd
      refine .inr ⟨go, fun H3 => ∃ m', m' < m ∧ m' + (i + 1) = ds.length ∧ ∃ G' xs, Wd (ext G H H1) H1 G' H3 ∧ H3 Dd = some (.lst xs) ∧ G' Dd = none ∧ Dats G' xs (((ds.take (i + 1)).filter p).map f),
        fun H3 ⟨m', h1, h2⟩ => ⟨m', h1, h2⟩, fun x H3 y => ?_⟩
      obtain ⟨s3, rx⟩ := yl x H3 y
      have W3 := W.step s3
      have rx3 : Dat (ext G' H2 H3) x ds[i] := rx.same (ext_mono W.g0 W.gh)
      have E3 : ER B (ext G' H2 H3) H3 (wipe σ vs) (wipeA δ vs) := (E1.wipe vs).go W3
      have b3 : Same B H3 := (e2.trans s1).trans W3.bh
      obtain ⟨δ2, hg, ht, he⟩ := hs i _ hd
      refine hg B _ H3 _ x _ W3.gh b3 E3 rx3 fun σ2 E4 hw2 => ⟨hw2.trans wipe_wipe, ?_⟩
      refine ht B _ H3 σ2 W3.gh b3 E4 _ fun H4 s4 => ?_
      have W4 := W3.step s4
      have gD3 : ext G' H2 H3 Dd = none := ext_old hDd gD
      have hD3 : H3 Dd = some (.lst xs) := s3 _ _ hDd
      have gD4 : ext (ext G' H2 H3) H3 H4 Dd = none := ext_old hD3 gD3
      cases hp : p ds[i] with
      | true =>
        rw [if_pos rfl]
        refine he hp B _ H4 σ2 W4.gh (b3.trans s4) (E4.step s4) _ fun v H5 s5 rv => ?_
        have W5 := W4.step s5
        have hD5 : H5 Dd = some (.lst xs) := s5 _ _ (s4 _ _ hD3)
        have gD5 : ext (ext (ext G' H2 H3) H3 H4) H4 H5 Dd = none := ext_old (s4 _ _ hD3) gD4
        refine ⟨xs, hD5, ?_, m - 1, by omega, by omega, _, xs ++ [v], W5.mut gD5 hD, upd_same, gD5, ?_⟩
        · rw [r.len, List.length_map]
          refine Nat.lt_of_le_of_lt (List.length_filter_le _ _) ?_
          rw [List.length_take]
          exact Nat.lt_of_le_of_lt (Nat.le_trans (Nat.min_le_right _ _) hz) (by decide)
        · rw [take_next hd, List.filter_append, List.map_append]
          refine (r.same (((ext_l).trans ext_l).trans ext_l)).app ?_
          rw [List.filter_cons, if_pos hp]
          exact .one rv
      | false =>
        rw [if_neg Bool.false_ne_true]
        refine ⟨m - 1, by omega, by omega, _, xs, W4, s4 _ _ hD3, gD4, ?_⟩
        rw [take_next hd, List.filter_append, List.map_append, List.filter_cons, if_neg (by rw [hp]; decide)]
        rw [List.filter_nil, List.map_nil, List.append_nil]
        exact r.same ((ext_l).trans ext_l)
    · have ei : i = ds.length := by omega
      subst ei
      rw [List.take_length] at r
      refine .inl ⟨(ja _ H2 (W.g0.trans W.gh)).2 (Nat.le_refl _), q Dd xs H2 (s1.trans W.bh) (s1.free hD) hDd ?_⟩
      refine r.same fun b o e => ?_
      have := W.fin b o e
      rw [ext_ext s1 W.bh] at this
      exact this
theorem lc_new {C : Addr} {EX : XK} {δ : List Sl} {wi : TI} {g : TG} {tt : TT} {te : TE} {vs : List Nat} (i : RI C EX wi) (gg : RGw g vs) (t : RT C EX tt) (e : RE C EX te) {es : List PyData}
    (h : lcAll (i.run δ) (gg.run (wipeA δ vs)) t.run e.run = .ok (.list es)) : EvF (tLc wi g tt te vs) δ es := by
  unfold lcAll at h
  split at h
  · cases h
  · rename_i ds hi
    split at h
    · rename_i hz
      split at h
      · rename_i es' he
        cases h
        obtain ⟨z1, z2⟩ := lcRun_ok he
        rw [z1]
        refine eve_lcF _ _ (i.sd δ ds hi) hz fun j d hd => ?_
        obtain ⟨δ2, y1, y2, y3⟩ := z2 d (List.mem_of_getElem? hd)
        exact ⟨δ2, gg.sd _ _ _ y1, t.at_ok y2, fun hp => e.at_ok (y3 hp)⟩
      · cases h
    · cases h
instance rsSetOw {C : Addr} {EX : XK} {i : Nat} {te tk : TE} [a : RE C EX te] [b : RE C EX tk] : RS C EX (tAsg te (gSub (tVar i) tk rSetL)) where
  run δ := match owAt δ i, a.run δ, b.run δ with
    | some ds, .ok d, .ok (.int (.ofNat k)) => if k < ds.length then .nx (δ.set i (.ow (ds.set k d))) else .bad
    | _, _, _ => .bad
  sd δ h := by
    revert h
    cases e1 : owAt δ i with
    | none => intro h; exact absurd rfl h
    | some ds =>
      cases e2 : a.run δ with
      | bad => intro h; exact absurd rfl h
      | ex n => intro h; exact absurd rfl h
      | ok d =>
        cases e3 : b.run δ with
        | bad => intro h; exact absurd rfl h
        | ex n => intro h; exact absurd rfl h
        | ok dk =>
          cases dk with
          | int z =>
            cases z with
            | ofNat k =>
              show (if k < ds.length then Fl.nx (δ.set i (.ow (ds.set k d))) else .bad) ≠ .bad → WS C EX _ (aeO (if k < ds.length then Fl.nx (δ.set i (.ow (ds.set k d))) else .bad)) δ
              split
              · rename_i hk
                exact fun _ => ws_setitem (owAt_eq e1) (a.at_ok e2) (b.at_ok e3) hk rfl
              · intro h; exact absurd rfl h
            | negSucc k => intro h; exact absurd rfl h
          | _ => intro h; exact absurd rfl h
section
variable {P : Program} {w : World} {K : PySem.W.Frag} {mg : Str → Option Value} {base : Heap} {C fI : Addr} {f_catalogue f_count_maps f_count_homs f : PF}
/-! ### hom_profile: the list is new -/
abbrev hpA (K : PySem.W.Frag) (C : Addr) (E : XK) (f_catalogue : PF) : TS := tAsg (tCallN 1 1 (spF C 2 f_catalogue) (fun vs zs => vs ++ zs) (EC C E) (tCons (tVar 1) tNil) (tCons (tVar 2) tNil)) (gName 3)
abbrev hpB (K : PySem.W.Frag) (C : Addr) (E : XK) (f_count_maps : PF) : TS := tDrop (tCall (spF C 3 f_count_maps) [] (EC C E) (tCons (tVar 1) (tCons (tOp (rIxT K) (tVar 0) (tC (.int 0))) (tCons (tC (.int 4096)) tNil))))
abbrev hpC (K : PySem.W.Frag) (C : Addr) (f_count_homs : PF) : TE := tLc (iList K (tVar 3)) (gName 4) tYes (tCall (spF C 2 f_count_homs) [] E0 (tCons (tVar 4) (tCons (tVar 0) tNil))) [4]
def inhpA (K : PySem.W.Frag) (C : Addr) (E : XK) (f_catalogue : PF) : RS C E (hpA K C E f_catalogue) := inferInstance
def inhpB (K : PySem.W.Frag) (C : Addr) (E : XK) (f_count_maps : PF) : RS C E (hpB K C E f_count_maps) := inferInstance
def hpI (K : PySem.W.Frag) (C : Addr) : RI C E0 (iList K (tVar 3)) := inferInstance
def hpE (C : Addr) (f_count_homs : PF) : RE C E0 (tCall (spF C 2 f_count_homs) [] E0 (tCons (tVar 4) (tCons (tVar 0) tNil))) := inferInstance
def retHP (K : PySem.W.Frag) (C : Addr) (f_count_homs : PF) (δ : List Sl) : Rn PyData := match lcAll ((hpI K C).run δ) ((rgwName 4 [4]).run (wipeA δ [4])) (rtYes (C := C) (EX := E0)).run (hpE C f_count_homs).run with
  | .ok (.list es) => if es.all flat1 then .ok (.list es) else .bad
  | _ => .bad
def fl2 (o : Fl) (k : List Sl → Rn PyData) : Rn PyData := match o with
  | .nx δ => k δ
  | .ex n => .ex n
  | _ => .bad
def FhpR (K : PySem.W.Frag) (C : Addr) (E : XK) (f_catalogue f_count_maps f_count_homs : PF) : PF := fun ds => fl2 ((inhpA K C E f_catalogue).run (startA 5 ds)) fun δ1 => fl2 ((inhpB K C E f_count_maps).run δ1) fun δ2 => retHP K C f_count_homs δ2
theorem hp_sem {E : XK} {vs : List V} {H : Hp} {Q : VK} (h : spFr C 3 f vs H Q E) (hf : ∀ ds, ds.length = 3 → Ref (f ds) (FhpR K C E f_catalogue f_count_maps f_count_homs ds)) :
    rdhom_profile K C E f_catalogue f_count_maps f_count_homs { nx := fun _ H' => Q .non H', rt := Q } (L2.start Nhom_profile vs) H := by
  obtain ⟨ds, G, hn, e, r, q⟩ := h
  rcases hf ds hn with z | z
  · rw [z] at q; exact q.elim
  · rw [← z] at q
    unfold FhpR at q
    have W0 := Wd.refl e (Same.refl H)
    have E0' : ER H G H (L2.start Nhom_profile vs) (startA 5 ds) := er_start r
    have hA := (inhpA K C E f_catalogue).sd (startA 5 ds)
    revert q hA
    cases (inhpA K C E f_catalogue).run (startA 5 ds) with
    | bad => intro q; exact q.elim
    | bk _ => intro q; exact q.elim
    | ct _ => intro q; exact q.elim
    | rt _ => intro q; exact q.elim
    | ex m => exact fun q hA => hA (by simp) G H G H _ _ W0 E0' ⟨fun _ _ _ _ _ _ z => (by cases z), fun _ _ _ _ _ _ z => (by cases z), fun _ _ _ _ _ _ z => (by cases z), fun _ _ _ _ _ _ z => (by cases z), fun m' z => (by cases z; exact q)⟩
    | nx δ1 =>
      intro q hA
      refine hA (by simp) G H G H _ _ W0 E0' ⟨fun G1 H1 σ1 δ1' W1 E1 z => ?_, fun _ _ _ _ _ _ z => (by cases z), fun _ _ _ _ _ _ z => (by cases z), fun _ _ _ _ _ _ z => (by cases z), fun m' z => (by cases z)⟩
      cases z
      have hB := (inhpB K C E f_count_maps).sd δ1
      revert q hB
      simp only [fl2]
      cases (inhpB K C E f_count_maps).run δ1 with
      | bad => intro q; exact q.elim
      | bk _ => intro q; exact q.elim
      | ct _ => intro q; exact q.elim
      | rt _ => intro q; exact q.elim
      | ex m => exact fun q hB => hB (by simp) G H G1 H1 _ _ W1 E1 ⟨fun _ _ _ _ _ _ z => (by cases z), fun _ _ _ _ _ _ z => (by cases z), fun _ _ _ _ _ _ z => (by cases z), fun _ _ _ _ _ _ z => (by cases z), fun m' z => (by cases z; exact q)⟩
      | nx δ2 =>
        intro q hB
        refine hB (by simp) G H G1 H1 _ _ W1 E1 ⟨fun G2 H2 σ2 δ2' W2 E2 z => ?_, fun _ _ _ _ _ _ z => (by cases z), fun _ _ _ _ _ _ z => (by cases z), fun _ _ _ _ _ _ z => (by cases z), fun m' z => (by cases z)⟩
        cases z
        revert q
        simp only [retHP]
        cases el : lcAll ((hpI K C).run δ2) ((rgwName 4 [4]).run (wipeA δ2 [4])) (rtYes (C := C) (EX := E0)).run (hpE C f_count_homs).run with
        | bad => intro q; exact q.elim
        | ex m => intro q; exact q.elim
        | ok d =>
          cases d with
          | list es =>
            simp only
            by_cases hfl : es.all flat1 = true
            · rw [if_pos hfl]
              intro q
              refine lc_new (hpI K C) (rgwName 4 [4]) (rtYes (C := C) (EX := E0)) (hpE C f_count_homs) el H G2 H2 σ2 W2.gh W2.bh E2 _ fun p xs H3 s3 hp hp3 hx => ?_
              exact q _ H3 (W2.bh.trans s3) (.lst (xs := xs) (ext_new (W2.bh.free hp) rfl hp3) (flat1_dats hfl hx))
            · rw [if_neg hfl]
              intro q; exact q.elim
          | _ => intro q; exact q.elim
end
end DL
end
section
set_option Elab.async false
set_option linter.all false
set_option warn.classDefReducibility false
set_option synthInstance.maxSize 1000000
set_option synthInstance.maxHeartbeats 4000000
set_option maxRecDepth 100000
set_option maxHeartbeats 4000000
/-! DU: hom_profile's new list, the defs that catch. -/
namespace DL
open PySem L2 GX PyProof.Rows TLX
section
variable {P : Program} {w : World} {K : PySem.W.Frag} {mg : Str → Option Value} {base : Heap} {C fI : Addr} {st : Stmt} {x : Str} {N ps : List Str} {k n : Nat} {sp : Sp}
/-- a def of any promise -/
theorem cal_ofS (D : DefAt K mg st x []) (S : FnScope N ps (defScope st)) (len : ∀ vs H Q E, sp vs H Q E → vs.length = ps.length)
    (hb : ∀ (kV doc pm : Value) (an : Option Addr) (cdv ct : Value) (us : List Value), us.length = ps.length → bindArgs (PySem.W.fnOf x x (defArgs st) (defBody st) (defScope st) .none kV doc pm an cdv ct) ⟨us, []⟩ = pure (ps.zip us))
    (ts : XK → TS) (sem : ∀ vs H Q E, sp vs H Q E → ts E { nx := fun _ H' => Q .non H', rt := Q } (L2.start N vs) H)
    (hbody : ∀ (f : Addr) (cdv : Value) (A : Around) (outer : List Env) (s : Shared) (H : Hp) (E : XK), Room k (A.deeper (envOfC x (defScope st) s.heap.objs.size f cdv)) → PSs (cxOf (L2.CX P w) P w K mg base N x (defScope st) f cdv A outer s H E) (defBody st) (ts E)) :
    Cal P w K mg base (k + 1) x [] sp := by
  obtain ⟨a, fd, h1, F⟩ := D
  exact ⟨a, fd, ps, [], h1, F.kp, F.ok S len fun cdv A outer s H vs Q E hr h => ⟨ts E, hbody a cdv A outer s H E hr, sem vs H Q E h⟩, F.bindsN hb, .nil⟩
theorem cal_ofKS {kws : List (Str × V)} {ks : List Str} {m : Nat} (D : DefAt K mg st x kws) (S : FnScope N ps (defScope st)) (len : ∀ vs H Q E, sp vs H Q E → vs.length = ps.length) (hk : kws ≠ []) (hm : m + kws.length = ps.length)
    (hb0 : ∀ (D : Addr) (doc pm : Value) (an : Option Addr) (cdv ct : Value) (us ws : List Value), us.length = m → ws.length = kws.length →
      KwChain D ((kws.map (·.1)).zip ws) (bindArgs (PySem.W.fnOf x x (defArgs st) (defBody st) (defScope st) .none (.ref D) doc pm an cdv ct) ⟨us, []⟩) (ps.zip (us ++ ws)))
    (hbk : ∀ (D : Addr) (doc pm : Value) (an : Option Addr) (cdv ct : Value) (us mv ws : List Value), us.length = m → mv.length = 0 → ws.length = ks.length →
      KwChain D (([] : List Str).zip mv) (bindArgs (PySem.W.fnOf x x (defArgs st) (defBody st) (defScope st) .none (.ref D) doc pm an cdv ct) ⟨us, ks.zip ws⟩) (ps.zip (us ++ ws)))
    (ts : XK → TS) (sem : ∀ vs H Q E, sp vs H Q E → ts E { nx := fun _ H' => Q .non H', rt := Q } (L2.start N vs) H)
    (hbody : ∀ (f : Addr) (cdv : Value) (A : Around) (outer : List Env) (s : Shared) (H : Hp) (E : XK), Room k (A.deeper (envOfC x (defScope st) s.heap.objs.size f cdv)) → PSs (cxOf (L2.CX P w) P w K mg base N x (defScope st) f cdv A outer s H E) (defBody st) (ts E)) :
    Cal P w K mg base (k + 1) x (kws.map (·.2)) sp ∧ CalN P w K mg base (k + 1) x m ks sp := by
  obtain ⟨a, fd, h1, F⟩ := D
  have ok : FnOk P w K mg base (L2.CX P w) (k + 1) a fd ps sp := F.ok S len fun cdv A outer s H vs Q E hr h => ⟨ts E, hbody a cdv A outer s H E hr, sem vs H Q E h⟩
  refine ⟨⟨?_⟩, ⟨?_⟩⟩
  · obtain ⟨ds, r, b⟩ := F.binds0 m hk hm hb0
    exact ⟨a, fd, ps, ds, h1, F.kp, ok, b, r⟩
  · obtain ⟨mv, b⟩ := F.kbinds0 m ks [] (fun us _ ws => us ++ ws) hk (fun q hq => by cases hq) (fun r1 _ r3 => r1.append r3) (fun D doc pm an cdv ct us mv ws l1 l2 l3 => hbk D doc pm an cdv ct us mv ws l1 l2 l3)
    exact ⟨a, fd, ps, _, h1, F.kp, ok, b⟩
theorem okhom_profileR {f_catalogue : PF} {f_count_maps : PF} {f_count_homs : PF} {f : PF} (T : Tx mg) (D : DefAt K mg (K16.top 40) "hom_profile" [("loops", .bl false)]) (d_catalogue : Cal P w K mg base 10 "catalogue" [.bl false] (spF C 2 f_catalogue)) (c_catalogue : CalN P w K mg base 10 "catalogue" 1 ["loops"] (spF C 2 f_catalogue)) (c_count_maps : Cal P w K mg base 1 "count_maps" [] (spF C 3 f_count_maps)) (c_count_homs : Cal P w K mg base 6 "count_homs" [] (spF C 2 f_count_homs)) (hf : ∀ E ds, ds.length = 3 → Ref (f ds) (FhpR K C E f_catalogue f_count_maps f_count_homs ds)) : Cal P w K mg base 12 "hom_profile" [.bl false] (spFr C 3 f) ∧ CalN P w K mg base 12 "hom_profile" 2 ["loops"] (spFr C 3 f) := by
  refine cal_ofKS (kws := [("loops", .bl false)]) (ps := ["a", "limit", "loops"]) D schom_profile (fun vs H Q E h => spFr_len vs H Q E h) (by simp) rfl (fun _ _ _ _ _ _ us ws l1 l2 => match us, l1, ws, l2 with | [_, _], _, [_], _ => ⟨_, _, _, _, _, _, rfl, rfl, rfl⟩) (fun _ _ _ _ _ _ us mv ws l1 l2 l3 => match us, l1, mv, l2, ws, l3 with | [_, _], _, [], _, [_], _ => rfl) (fun E => rdhom_profile K C E f_catalogue f_count_maps f_count_homs) (fun vs H Q E h => hp_sem h (hf E)) fun f cdv A outer s H E hr => ?_
  exact (pss_cons (ps_set (i := 3) schom_profile.nd rfl (by first | exact Or.inl rfl | exact Or.inr rfl) (pe_calN c_catalogue (hr.mono (by decide)) (passE rfl rfl rfl rfl) (pa_cons (pv 1) pa_nil) (pk_cons (pv 2) pk_nil))) (pss_cons (ps_expr (pe_cal c_count_maps (hr.mono (by decide)) (passE rfl rfl rfl rfl) (pa_cons (pv 1) (pa_cons (pe_ix ix_tup (pv 0) pe_int (fun _ _ => rfl)) (pa_cons (pe_gl T.c_MAX_MAPS) pa_nil))))) (pss_cons (ps_ret (pe_lc (own := [("x", 4)]) rfl schom_profile.nd (pi_list (pv 3)) (blkOk_by (own := [("x", 4)]) (N := Nhom_profile) (by kernel_rfl)) (fun _ _ _ _ _ => (pg_name (i := 4) schom_profile.nd rfl (by first | exact Or.inl rfl | exact Or.inr rfl))) (fun _ _ _ _ _ => pts_nil) (fun _ _ _ _ _ => (pe_cal c_count_homs (hr.mono (by decide)) passL (pa_cons (pv 4) (pa_cons (pv 0) pa_nil)))))) pss_nil)))

/-! ### what stands behind `except WebError as e` -/
structure ErT (K : PySem.W.Frag) (mg : Str → Option Value) (C We Un No : Addr) : Prop where
  ex : ExcC K C
  xf : XfC K C
  no : PySem.W.findIn K (.ref C) "limit" = some none
  gC : mg "TooLarge" = some (.ref C)
  gW : mg "WebError" = some (.ref We)
  gU : mg "UnfitWeb" = some (.ref Un)
  gN : mg "NoResult" = some (.ref No)
  eW : PySem.W.exmOne K (.ref C) (.ref We) = some true
  kC : PySem.W.kitOne K (.ref C) (.ref C) = some true
  kU : PySem.W.kitOne K (.ref C) (.ref Un) = some false
  kN : PySem.W.kitOne K (.ref C) (.ref No) = some false
abbrev tIsi (K : PySem.W.Frag) (C a : Addr) (cls : Value) (d : Option Addr) (e : Nat) (X : Addr) : TE := tCB (rIsX K C a cls d) (tCons (tVar e) (tCons (tC (.ref X)) tNil))
abbrev tSuite (K : PySem.W.Frag) (C Un No : Addr) (e : Nat) (a : Addr) (cls : Value) (d : Option Addr) : TS :=
  tSeq (tIfS (tAnd (tB (tIsi K C a cls d e C)) (tAnd (tNot (tB (tIsi K C a cls d e Un))) (tNot (tB (tIsi K C a cls d e No))))) (tSeq (tRet (tTup (tCons (tC (.str "too large")) (tCons (tXf a cls d C "limit" (tVar e)) tNil)))) tNext) tNext) (tSeq (tRet (tTup (tCons (tC (.str "other")) (tCons (tC (.int 0)) tNil)))) tNext)
theorem suite_sem {We Un No a dd : Addr} {e : Nat} {m : Int} {D : Ends} {σ : L2.St} {H : Hp} (Z : ErT K mg C We Un No) (he : σ[e]? = some (some (.ref a))) (hd : H dd = some (.xd [(("limit" : Str), .int m)]))
    (q : ∀ p, H p = none → D.rt (.ref p) (upd H p (.tup [.str "too large", .int m]))) : tSuite K C Un No e a (.ref C) (some dd) D σ H := by
  have isi : ∀ (X : Addr) (b : Bool) (Q : VK), PySem.W.kitOne K (.ref C) (.ref X) = some b → Q (.bl b) H → tIsi K C a (.ref C) (some dd) e X σ H Q := fun X b Q k q => ⟨_, he, .ref X, .ref X, b, dd, _, rfl, fun u r => r, rfl, rfl, hd, k, q⟩
  refine isi C true _ Z.kC ⟨true, rfl, ?_⟩
  dsimp only
  rw [if_pos rfl]
  refine isi Un false _ Z.kU ⟨false, rfl, ?_⟩
  dsimp only
  rw [Bool.not_false, if_pos rfl]
  refine isi No false _ Z.kN ⟨false, rfl, ?_⟩
  dsimp only
  rw [Bool.not_false, if_pos rfl]
  refine ⟨_, he, rfl, rfl, dd, _, .int m, rfl, hd, by simp [List.lookup], ?_⟩
  exact ⟨by show 2 ≤ sizeLine; decide, fun p hp => q p hp⟩
/-- what a call in the tried suite may let out -/
def EW (n : Nat) (W : WX) : XK := fun cls d H => ∀ σ : L2.St, σ.length = n → W cls d σ H
theorem passW {X : Cx} {W : WX} {n : Nat} (tk : Takes X W) (hn : X.N.length = n) : Passes (L2.CX X.prog X.w) X (EW n W) :=
  fun _ σ _ _ e s' I c => tk e s' (XE.of_call I (fun cls d H' h => h σ (I.len.trans hn)) c)

/-! ### _law_telling -/
def Ftell (ft : PF) : PF := fun ds => match ft ds with
  | .ok d => .ok (.tuple [.str "told", d])
  | .ex n => .ok (.tuple [.str "too large", .int n])
  | .bad => .bad
abbrev Ntell : List Str := ["_law_a", "_law_b", "_law_told", "e"]
theorem sctell : FnScope Ntell ["_law_a", "_law_b"] (defScope (K16.top 59)) := ⟨rfl, rfl, rfl, by decide +kernel, rfl, by decide +kernel, by decide +kernel⟩
abbrev tbTell (C : Addr) (ft : PF) (W : WX) : TS := tSeq (tAsg (tCall (spF C 2 ft) [] (EW 4 W) (tCons (tVar 0) (tCons (tVar 1) tNil))) (gName 2)) tNext
abbrev rdTell (K : PySem.W.Frag) (C We Un No : Addr) (ft : PF) : TS := tSeq (fun D σ H => tbTell C ft (wAs K (.ref We) 3 (tSuite K C Un No 3) (fun _ _ _ _ => False) D) D σ H) (tSeq (tRet (tTup (tCons (tC (.str "told")) (tCons (tVar 2) tNil)))) tNext)
theorem tup2 {G H H' : Hp} {p : Addr} {v1 v2 : V} {d1 d2 : PyData} (hg : Same G H) (s : Same H H') (hp : H' p = none) (r1 : ∀ G', Dat G' v1 d1) (r2 : Dat (ext G H H') v2 d2) : Dat (ext G H (upd H' p (.tup [v1, v2]))) (.ref p) (.tuple [d1, d2]) := by
  have s2 := same_new (o := .tup [v1, v2]) hp
  refine .tup (xs := [v1, v2]) (ext_new (s.free hp) ((hg.trans s).free hp) upd_same) (.cons (r1 _) (.cons (r2.same ?_) .nil))
  rw [← ext_ext s s2]
  exact ext_l
theorem noH_same {H : Hp} : Same noH H := fun b o e => by cases e
theorem tell_sem {We Un No : Addr} {ft f : PF} {vs : List V} {H : Hp} {Q : VK} {E : XK} (Z : ErT K mg C We Un No) (h : spF C 2 f vs H Q E) (hf : ∀ ds, ds.length = 2 → Ref (f ds) (Ftell ft ds)) : rdTell K C We Un No ft { nx := fun _ H' => Q .non H', rt := Q } (L2.start Ntell vs) H := by
  obtain ⟨ds, G, hn, e, r, q⟩ := h
  rcases hf ds hn with z | z
  · rw [z] at q; exact q.elim
  · rw [← z] at q
    cases r with
    | nil => cases hn
    | @cons v1 vs1 d1 ds1 r1 r =>
      cases r with
      | nil => cases hn
      | @cons v2 vs2 d2 ds2 r2 r =>
        cases r with
        | cons _ _ => cases hn
        | nil =>
          refine ⟨v1, rfl, v2, rfl, [d1, d2], G, rfl, e, .cons r1 (.cons r2 .nil), ?_⟩
          unfold Ftell at q
          cases ht : ft [d1, d2] with
          | bad => rw [ht] at q; exact q.elim
          | ok d =>
            rw [ht] at q
            intro v H' s rv
            refine ⟨v, rfl, by show 2 ≤ sizeLine; decide, fun p hp => ?_⟩
            exact q _ _ (s.trans (same_new hp)) (tup2 e s hp (fun _ => .str _) rv)
          | ex m =>
            rw [ht] at q
            intro dd H' s hd σ hl
            refine ⟨true, Z.eW, fun _ a ha => ?_, fun z => nomatch z⟩
            refine suite_sem Z (List.getElem?_set_self (by rw [hl]; decide)) hd fun p hp => ?_
            exact q _ _ (s.trans (same_new hp)) (tup2 e s hp (fun _ => .str _) (.int m))
theorem oktell {We Un No : Addr} {ft f : PF} (Z : ErT K mg C We Un No) (T : Tx mg) (D : DefAt K mg (K16.top 59) "_law_telling" []) (c_telling_web : Cal P w K mg base 32 "telling_web" [] (spF C 2 ft)) (hf : ∀ ds, ds.length = 2 → Ref (f ds) (Ftell ft ds)) : Cal P w K mg base 33 "_law_telling" [] (spF C 2 f) := by
  refine cal_ofS (ps := ["_law_a", "_law_b"]) D sctell (fun vs H Q E h => spF_len vs H Q E h) (fun _ _ _ _ _ _ us hl => match us, hl with | [_, _], _ => rfl) (fun _ => rdTell K C We Un No ft) (fun vs H Q E h => tell_sem Z h hf) fun f cdv A outer s H E hr => ?_
  refine pss_cons (ps_try_as (i := 3) (c := .ref We) (tb := tbTell C ft) (ts := tSuite K C Un No 3) (Wout := fun _ _ _ _ => False) rfl rfl sctell.nd rfl rfl ⟨rfl, by decide, .inl Z.gW⟩ takes0 (fun W pn xe tk _ => ?_) (fun a oe cls d pn hz hf => ?_)) (pss_cons (ps_ret (pe_tup (pa_cons pe_str (pa_cons (pv 2) pa_nil)))) pss_nil)
  · exact pss_cons (ps_set (i := 2) sctell.nd rfl (Or.inl rfl) (pe_cal c_telling_web (hr.mono (by decide)) (passW tk rfl) (pa_cons (pv 0) (pa_cons (pv 1) pa_nil)))) pss_nil
  · exact pss_cons (ps_if (pw_and (pt_val (pe_callB (call_isX Z.ex hz hf) (by rfl) T.n_isinstance boot_isinstance (pa_cons (pv 3) (pa_cons (pe_glob (v := V.ref C) (by rfl) Z.gC rfl) pa_nil)))) (pw_and (pt_not (pt_val (pe_callB (call_isX Z.ex hz hf) (by rfl) T.n_isinstance boot_isinstance (pa_cons (pv 3) (pa_cons (pe_glob (v := V.ref Un) (by rfl) Z.gU rfl) pa_nil))))) (pw_and1 (pt_not (pt_val (pe_callB (call_isX Z.ex hz hf) (by rfl) T.n_isinstance boot_isinstance (pa_cons (pv 3) (pa_cons (pe_glob (v := V.ref No) (by rfl) Z.gN rfl) pa_nil)))))))).pt (pss_cons (ps_ret (pe_tup (pa_cons pe_str (pa_cons (pe_xf Z.xf Z.no hz hf (pv 3)) pa_nil)))) pss_nil) pss_nil) (pss_cons (ps_ret (pe_tup (pa_cons pe_str (pa_cons pe_int pa_nil)))) pss_nil)

/-! ### _law_profile: the list is new -/
def Fprof (fp : PF) : PF := fun ds => match ds with
  | [a, l, .bool b, .bool _] => (match fp [a, l, .bool b] with
    | .ok d => .ok (.tuple [.str "told", d])
    | .ex n => .ok (.tuple [.str "too large", .int n])
    | .bad => .bad)
  | _ => .bad
abbrev Nprof : List Str := ["_law_a", "_law_limit", "_law_looped", "_law_plain", "_law_told", "e"]
theorem scprof : FnScope Nprof ["_law_a", "_law_limit", "_law_looped", "_law_plain"] (defScope (K16.top 60)) := ⟨rfl, rfl, rfl, by decide +kernel, rfl, by decide +kernel, by decide +kernel⟩
abbrev cProf (C : Addr) (fp : PF) (W : WX) (b : Bool) : TS := tAsg (tCallN 2 1 (spFr C 3 fp) (fun vs zs => vs ++ zs) (EW 6 W) (tCons (tVar 0) (tCons (tVar 1) tNil)) (tCons (tC (.bl b)) tNil)) (gName 4)
abbrev tbProf (C : Addr) (fp : PF) (W : WX) : TS := tSeq (tIfS (tB (tVar 2)) (tSeq (cProf C fp W true) tNext) (tSeq (tIfS (tB (tVar 3)) (tSeq (tAsg (tCall (spFr C 3 fp) [.bl false] (EW 6 W) (tCons (tVar 0) (tCons (tVar 1) tNil))) (gName 4)) tNext) (tSeq (cProf C fp W false) tNext)) tNext)) tNext
abbrev rdProf (K : PySem.W.Frag) (C We Un No : Addr) (fp : PF) : TS := tSeq (fun D σ H => tbProf C fp (wAs K (.ref We) 5 (tSuite K C Un No 5) (fun _ _ _ _ => False) D) D σ H) (tSeq (tRet (tTup (tCons (tC (.str "told")) (tCons (tVar 4) tNil)))) tNext)
theorem prof_sem {We Un No : Addr} {fp f : PF} {vs : List V} {H : Hp} {Q : VK} {E : XK} (Z : ErT K mg C We Un No) (h : spFr C 4 f vs H Q E) (hf : ∀ ds, ds.length = 4 → Ref (f ds) (Fprof fp ds)) : rdProf K C We Un No fp { nx := fun _ H' => Q .non H', rt := Q } (L2.start Nprof vs) H := by
  obtain ⟨ds, G, hn, e, r, q⟩ := h
  rcases hf ds hn with z | z
  · rw [z] at q; exact q.elim
  · rw [← z] at q
    cases r with
    | nil => cases hn
    | @cons v1 vs1 d1 ds1 r1 r =>
     cases r with
     | nil => cases hn
     | @cons v2 vs2 d2 ds2 r2 r =>
      cases r with
      | nil => cases hn
      | @cons v3 vs3 d3 ds3 r3 r =>
       cases r with
       | nil => cases hn
       | @cons v4 vs4 d4 ds4 r4 r =>
        cases r with
        | cons _ _ => cases hn
        | nil =>
         cases d3 with
         | bool b =>
           cases d4 with
           | bool b' =>
              simp only [Fprof] at q
              have e3 := r3.eqBool
              have e4 := r4.eqBool
              subst e3 e4
              have SP : ∀ (Q' : VK) (W : WX), (∀ v H' d, fp [d1, d2, .bool b] = .ok d → Same H H' → Dat (ext noH H H') v d → Q' v H') → (∀ dd H' m σ, fp [d1, d2, .bool b] = .ex m → σ.length = 6 → Same H H' → H' dd = some (.xd [(("limit" : Str), .int m)]) → W (.ref C) (some dd) σ H') →
                  spFr C 3 fp [v1, v2, .bl b] H Q' (EW 6 W) := fun Q' W h1 h2 => by
                refine ⟨[d1, d2, .bool b], G, rfl, e, .cons r1 (.cons r2 (.cons (.bl b) .nil)), ?_⟩
                cases hp : fp [d1, d2, .bool b] with
                | bad => rw [hp] at q; exact q.elim
                | ok d => exact fun v H' s rd => h1 v H' d hp s rd
                | ex m => exact fun dd H' s hd σ hl => h2 dd H' m σ hp hl s hd
              have okk : ∀ v H' d, fp [d1, d2, .bool b] = .ok d → Same H H' → Dat (ext noH H H') v d → ∀ σ : L2.St, σ[4]? = some (some v) → (tSeq (tRet (tTup (tCons (tC (.str "told")) (tCons (tVar 4) tNil)))) tNext) { nx := fun _ H' => Q .non H', rt := Q } σ H' := fun v H' d hp s rd σ hσ => by
                rw [hp] at q
                refine ⟨v, hσ, by show 2 ≤ sizeLine; decide, fun p hp' => ?_⟩
                exact q _ _ (s.trans (same_new hp')) (tup2 noH_same s hp' (fun _ => .str _) rd)
              have exx : ∀ dd H' m (σ : L2.St), fp [d1, d2, .bool b] = .ex m → σ.length = 6 → Same H H' → H' dd = some (.xd [(("limit" : Str), .int m)]) →
                  wAs K (.ref We) 5 (tSuite K C Un No 5) (fun _ _ _ _ => False) { nx := (tSeq (tRet (tTup (tCons (tC (.str "told")) (tCons (tVar 4) tNil)))) tNext) { nx := fun _ H' => Q .non H', rt := Q }, rt := Q } (.ref C) (some dd) σ H' := fun dd H' m σ hp hl s hd => by
                rw [hp] at q
                refine ⟨true, Z.eW, fun _ a ha => ?_, fun z => nomatch z⟩
                refine suite_sem Z (List.getElem?_set_self (by rw [hl]; decide)) hd fun p hp' => ?_
                exact q _ _ (s.trans (same_new hp')) (tup2 noH_same s hp' (fun _ => .str _) (.int m))
              refine ⟨.bl b, rfl, b, rfl, ?_⟩
              cases b with
              | true =>
                rw [if_pos rfl]
                exact ⟨v1, rfl, v2, rfl, rfl, rfl, SP _ _ (fun v H' d hp s rd => okk v H' d hp s rd _ rfl) exx⟩
              | false =>
                rw [if_neg Bool.false_ne_true]
                refine ⟨.bl b', rfl, b', rfl, ?_⟩
                cases b' with
                | true =>
                  rw [if_pos rfl]
                  exact ⟨v1, rfl, v2, rfl, SP _ _ (fun v H' d hp s rd => okk v H' d hp s rd _ rfl) exx⟩
                | false =>
                  rw [if_neg Bool.false_ne_true]
                  exact ⟨v1, rfl, v2, rfl, rfl, rfl, SP _ _ (fun v H' d hp s rd => okk v H' d hp s rd _ rfl) exx⟩
           | _ => exact q.elim
         | _ => exact q.elim
theorem okprof {We Un No : Addr} {fp f : PF} (Z : ErT K mg C We Un No) (T : Tx mg) (D : DefAt K mg (K16.top 60) "_law_profile" []) (d_hom_profile : Cal P w K mg base 12 "hom_profile" [.bl false] (spFr C 3 fp)) (c_hom_profile : CalN P w K mg base 12 "hom_profile" 2 ["loops"] (spFr C 3 fp)) (hf : ∀ ds, ds.length = 4 → Ref (f ds) (Fprof fp ds)) : Cal P w K mg base 33 "_law_profile" [] (spFr C 4 f) := by
  refine cal_ofS (ps := ["_law_a", "_law_limit", "_law_looped", "_law_plain"]) D scprof (fun vs H Q E h => spFr_len vs H Q E h) (fun _ _ _ _ _ _ us hl => match us, hl with | [_, _, _, _], _ => rfl) (fun _ => rdProf K C We Un No fp) (fun vs H Q E h => prof_sem Z h hf) fun f cdv A outer s H E hr => ?_
  refine pss_cons (ps_try_as (i := 5) (c := .ref We) (tb := tbProf C fp) (ts := tSuite K C Un No 5) (Wout := fun _ _ _ _ => False) rfl rfl scprof.nd rfl rfl ⟨rfl, by decide, .inl Z.gW⟩ takes0 (fun W pn xe tk _ => ?_) (fun a oe cls d pn hz hf => ?_)) (pss_cons (ps_ret (pe_tup (pa_cons pe_str (pa_cons (pv 4) pa_nil)))) pss_nil)
  · exact pss_cons (ps_if (pt_val (pv 2)) (pss_cons (ps_set (i := 4) scprof.nd rfl (Or.inl rfl) (pe_calN c_hom_profile (hr.mono (by decide)) (passW tk rfl) (pa_cons (pv 0) (pa_cons (pv 1) pa_nil)) (pk_cons pe_bl pk_nil))) pss_nil)
      (pss_cons (ps_if (pt_val (pv 3)) (pss_cons (ps_set (i := 4) scprof.nd rfl (Or.inl rfl) (pe_cal d_hom_profile (hr.mono (by decide)) (passW tk rfl) (pa_cons (pv 0) (pa_cons (pv 1) pa_nil)))) pss_nil)
        (pss_cons (ps_set (i := 4) scprof.nd rfl (Or.inl rfl) (pe_calN c_hom_profile (hr.mono (by decide)) (passW tk rfl) (pa_cons (pv 0) (pa_cons (pv 1) pa_nil)) (pk_cons pe_bl pk_nil))) pss_nil)) pss_nil)) pss_nil
  · exact pss_cons (ps_if (pw_and (pt_val (pe_callB (call_isX Z.ex hz hf) (by rfl) T.n_isinstance boot_isinstance (pa_cons (pv 5) (pa_cons (pe_glob (v := V.ref C) (by rfl) Z.gC rfl) pa_nil)))) (pw_and (pt_not (pt_val (pe_callB (call_isX Z.ex hz hf) (by rfl) T.n_isinstance boot_isinstance (pa_cons (pv 5) (pa_cons (pe_glob (v := V.ref Un) (by rfl) Z.gU rfl) pa_nil))))) (pw_and1 (pt_not (pt_val (pe_callB (call_isX Z.ex hz hf) (by rfl) T.n_isinstance boot_isinstance (pa_cons (pv 5) (pa_cons (pe_glob (v := V.ref No) (by rfl) Z.gN rfl) pa_nil)))))))).pt (pss_cons (ps_ret (pe_tup (pa_cons pe_str (pa_cons (pe_xf Z.xf Z.no hz hf (pv 5)) pa_nil)))) pss_nil) pss_nil) (pss_cons (ps_ret (pe_tup (pa_cons pe_str (pa_cons pe_int pa_nil)))) pss_nil)
end
end DL
end
section
set_option Elab.async false
set_option linter.all false
set_option warn.classDefReducibility false
set_option synthInstance.maxSize 1000000
set_option synthInstance.maxHeartbeats 4000000
set_option maxRecDepth 100000
set_option maxHeartbeats 4000000
/-! DEFn: the defs of the text, each with its reading, what it computes and its promise. Printed by gen.py. -/
namespace DL
open PySem L2 GX PyProof.Rows TLX

abbrev Nlaw_few_told : List Str := ["_law_a", "_law_limit", "_law_looped", "_law_due_here", "_law_told", "_law_changed"]
theorem sclaw_few_told : FnScope Nlaw_few_told ["_law_a", "_law_limit", "_law_looped"] (defScope (K16.top 62)) := ⟨rfl, rfl, rfl, by decide +kernel, rfl, by decide +kernel, by decide +kernel⟩

/-! _law_few_told -/
section
variable (K : PySem.W.Frag) (C : Addr) (fc fl fp fs : PF)
abbrev ft1 : TS := tAsg (tCall (spF C 2 fc) [] E0 (tCons (tVar 0) (tCons (tCall (spF C 2 fl) [] E0 (tCons (tVar 1) (tCons (tVar 2) tNil))) tNil))) (gName 3)
abbrev ft2 : TA := tCons (tVar 0) (tCons (tVar 1) (tCons (tVar 2) (tCons (tC (.bl true)) tNil)))
abbrev ft3 : TT := tNot (tB (tCall (spF C 2 fs) [] E0 (tCons (tTup (tCons (tC (.str "told")) (tCons (tVar 3) tNil))) (tCons (tVar 4) tNil))))
abbrev ft5 : TS := tSeq (tDrop (tBM K "list" rAppend (tVar 5) (tCons (tC (.int 0)) tNil))) (tSeq (tAsg (tC (.int 7)) (gSub (tVar 5) (tC (.int 0)) rSetL)) (tSeq (tRet (tCall (spF C 2 fs) [] E0 (tCons (tTup (tCons (tC (.str "told")) (tCons (tVar 3) tNil))) (tCons (tCall (spF C 4 fp) [] E0 (tCons (tVar 0) (tCons (tVar 1) (tCons (tVar 2) (tCons (tC (.bl false)) tNil))))) tNil)))) tNext))
abbrev rdFew : TS := tSeq (ft1 C fc fl) (tSeq (tAsg (tCall (spFr C 4 fp) [] E0 ft2) (gName 4)) (tSeq (tIfS (ft3 C fs) (tSeq (tRet (tC (.bl false))) tNext) tNext) (tSeq (tAsg (tOp (rIxT K) (tVar 4) (tC (.int 1))) (gName 5)) (ft5 K C fp fs))))
def inft1 : RS C E0 (ft1 C fc fl) := inferInstance
def inft2 : RA C E0 ft2 := inferInstance
def inft3 : RT C E0 (ft3 C fs) := inferInstance
def inft5 : RS C E0 (ft5 K C fp fs) := inferInstance
def notOw : Sl → Bool
  | .ow _ => false
  | _ => true
/-- what the first call gave -/
def told2 : Rn PyData → Option (List PyData)
  | .ok (.tuple [.str x, .list es]) => if es.all flat1 then some es else none
  | _ => none
def few3 (δ1 : List Sl) (r : Rn PyData) : Rn PyData := match r, told2 r with
  | .ok d, some es => match (inft3 C fs).run (δ1.set 4 (.pu d)) with
    | .ok false => outF0 ((inft5 K C fp fs).run ((δ1.set 4 .any).set 5 (.ow es)))
    | _ => .bad
  | _, _ => .bad
def few2 (δ1 : List Sl) : Rn PyData := if δ1.all notOw && decide (δ1.length = 6) then match (inft2 C).run δ1 with
    | .ok ds => if ds.length = 4 then few3 K C fp fs δ1 (fp ds) else .bad
    | _ => .bad
  else .bad
def Flaw_few_told : PF := fun ds => match (inft1 C fc fl).run (startA 6 ds) with
  | .nx δ1 => few2 K C fp fs δ1
  | _ => .bad
end
section
variable {P : Program} {w : World} {K : PySem.W.Frag} {mg : Str → Option Value} {base : Heap} {C fI : Addr} {fc fl fp fs f : PF}
theorem few_sem {vs : List V} {H : Hp} {Q : VK} {E : XK} (h : spF C 3 f vs H Q E) (hf : ∀ ds, ds.length = 3 → Ref (f ds) (Flaw_few_told K C fc fl fp fs ds)) : rdFew K C fc fl fp fs { nx := fun _ H' => Q .non H', rt := Q } (L2.start Nlaw_few_told vs) H := by
  obtain ⟨ds, G, hn, e, r, q⟩ := h
  rcases hf ds hn with z | z
  · rw [z] at q; exact q.elim
  · rw [← z] at q
    unfold Flaw_few_told at q
    have W0 := Wd.refl e (Same.refl H)
    have E00 : ER H G H (L2.start Nlaw_few_told vs) (startA 6 ds) := er_start r
    have h1 := (inft1 C fc fl).sd (startA 6 ds)
    revert q h1
    cases (inft1 C fc fl).run (startA 6 ds) with
    | bad => intro q; exact q.elim
    | bk _ => intro q; exact q.elim
    | ct _ => intro q; exact q.elim
    | rt _ => intro q; exact q.elim
    | ex _ => intro q; exact q.elim
    | nx δ1 =>
      intro q h1
      refine h1 (by simp) G H G H _ _ W0 E00 ⟨fun G1 H1 σ1 δ1' W1 E1 z => ?_, fun _ _ _ _ _ _ z => (by cases z), fun _ _ _ _ _ _ z => (by cases z), fun _ _ _ _ _ _ z => (by cases z), fun m' z => (by cases z)⟩
      cases z
      simp only [few2] at q
      by_cases hno : (δ1.all notOw && decide (δ1.length = 6)) = true
      · rw [if_pos hno] at q
        rw [Bool.and_eq_true, decide_eq_true_eq] at hno
        obtain ⟨hno, hlen⟩ := hno
        revert q
        cases ea : (inft2 C).run δ1 with
        | bad => intro q; exact q.elim
        | ex _ => intro q; exact q.elim
        | ok as =>
          intro q
          dsimp only at q
          by_cases h4 : as.length = 4
          · rw [if_pos h4] at q
            simp only [few3] at q
            revert q
            cases ep : fp as with
            | bad => intro q; exact q.elim
            | ex _ => intro q; exact q.elim
            | ok d =>
              cases et : told2 (.ok d) with
              | none => intro q; exact q.elim
              | some es =>
                simp only
                cases e3 : (inft3 C fs).run (δ1.set 4 (.pu d)) with
                | bad => intro q; exact q.elim
                | ex _ => intro q; exact q.elim
                | ok b =>
                  cases b with
                  | true => intro q; exact q.elim
                  | false =>
                    simp only
                    intro q
                    -- the shape of what was told
                    unfold told2 at et
                    split at et
                    · rename_i x es' heq
                      split at et
                      · rename_i hfl
                        cases et
                        cases heq
                        refine (show ∀ (D : Ends), (ft2 σ1 H1 fun vs H2 => spFr C 4 fp (vs ++ []) H2 (fun x H3 => gName 4 x σ1 H3 D.nx) E0) → tAsg (tCall (spFr C 4 fp) [] E0 ft2) (gName 4) D σ1 H1 from fun D h => h) _ ?_
                        refine (inft2 C).at_ok ea H G1 H1 σ1 W1.gh W1.bh E1 _ fun us HA sA ra => ?_
                        have WA := W1.step sA
                        have EA := E1.step sA
                        refine ⟨as, ext G1 H1 HA, h4, WA.gh, by rw [List.append_nil]; exact ra, ?_⟩
                        · rw [ep]
                          intro v H2 s2 rv
                          obtain ⟨p, xs, rfl, gp, rp⟩ := rv.inTup
                          cases rp with
                          | @cons v1 _ _ _ r1 rp =>
                            cases rp with
                            | cons r2 rp =>
                              cases rp
                              obtain ⟨qa, ys, rfl, gq, rq⟩ := r2.inLst
                              have nw : ∀ {b : Addr} {o : HO}, ext noH HA H2 b = some o → HA b = none ∧ H2 b = some o := by
                                intro b o hb
                                unfold ext at hb
                                simp only at hb
                                cases zz : HA b with
                                | none => rw [zz] at hb; exact ⟨rfl, hb⟩
                                | some _ => rw [zz] at hb; cases hb
                              obtain ⟨np, hp⟩ := nw gp
                              obtain ⟨nq, hq⟩ := nw gq
                              have EB : ER H (ext (ext G1 H1 HA) HA H2) H2 (σ1.set 4 (some (.ref p))) (δ1.set 4 (.pu (.tuple [.str x, .list es]))) := (EA.step s2).set (rv.same (noH_ext WA.gh))
                              refine (show ∀ (D : Ends), (ft3 C fs (σ1.set 4 (some (.ref p))) H2 fun b H3 => if b = true then (tSeq (tRet (tC (.bl false))) tNext) D (σ1.set 4 (some (.ref p))) H3 else tNext D (σ1.set 4 (some (.ref p))) H3) → gName 4 (.ref p) σ1 H2 (tIfS (ft3 C fs) (tSeq (tRet (tC (.bl false))) tNext) tNext D) from fun D h => h) _ ?_
                              refine (inft3 C fs).at_ok e3 H _ H2 _ (ext_r WA.gh s2) (WA.bh.trans s2) EB _ fun H3 s3 => ?_
                              rw [if_neg Bool.false_ne_true]
                              have hσ4 : (σ1.set 4 (some (.ref p)))[4]? = some (some (.ref p)) := List.getElem?_set_self (by rw [E1.len, hlen]; decide)
                              refine ⟨.ref p, hσ4, p, [v1, .ref qa], 1, .ref qa, rfl, rfl, SqT.of (s3 _ _ hp), rfl, ?_⟩
                              have WB : Wd G H (ext G1 H1 HA) H3 := ⟨WA.g0, (WA.gh.trans s2).trans s3, (WA.bh.trans s2).trans s3, WA.fr⟩
                              have no1 : ∀ (k : Nat) (ds : List PyData), (δ1.set 4 .any)[k]? ≠ some (.ow ds) := fun k ds hk => by
                                rcases set_get hk with ⟨_, _, z⟩ | ⟨_, z⟩
                                · cases z
                                · have := List.all_eq_true.mp hno _ (List.mem_of_getElem? z)
                                  cases this
                              have ED : ER H (ext G1 H1 HA) H3 ((σ1.set 4 (some (.ref p))).set 5 (some (.ref qa))) ((δ1.set 4 .any).set 5 (.ow es)) :=
                                ER.setOw (xs := ys) ((EA.forget 4 _).grow (s2.trans s3)) (s3 _ _ hq) (WA.gh.free nq) (WA.bh.free nq) (flat1_dats hfl rq) fun j es' _ hj => absurd hj (no1 j es')
                              have h5 := (inft5 K C fp fs).sd ((δ1.set 4 .any).set 5 (.ow es))
                              revert q h5
                              cases (inft5 K C fp fs).run ((δ1.set 4 .any).set 5 (.ow es)) with
                              | bad => intro q; exact q.elim
                              | bk _ => intro q; exact q.elim
                              | ct _ => intro q; exact q.elim
                              | ex _ => intro q; exact q.elim
                              | nx δ' =>
                                exact fun q hs => hs (by simp) G H _ H3 _ _ WB ED ⟨fun G' H' σ δ W E hn => q .non H' W.bh .non, fun _ _ _ _ _ _ z => (by cases z), fun _ _ _ _ _ _ z => (by cases z), fun _ _ _ _ _ _ z => (by cases z), fun _ z => (by cases z)⟩
                              | rt d =>
                                exact fun q hs => hs (by simp) G H _ H3 _ _ WB ED ⟨fun _ _ _ _ _ _ z => (by cases z), fun H' v d' _ e2 rd hd => (by cases hd; exact q v H' e2 rd), fun _ _ _ _ _ _ z => (by cases z), fun _ _ _ _ _ _ z => (by cases z), fun _ z => (by cases z)⟩
                      · cases et
                    · cases et
          · rw [if_neg h4] at q; exact q.elim
      · rw [if_neg hno] at q
        exact q.elim
theorem oklaw_few_told (T : Tx mg) (D : DefAt K mg (K16.top 62) "_law_few_told" []) (c__law_counts : Cal P w K mg base 2 "_law_counts" [] (spF C 2 fc)) (c__law_catalogue : Cal P w K mg base 3 "_law_catalogue" [] (spF C 2 fl)) (c1__law_profile : Cal P w K mg base 33 "_law_profile" [] (spFr C 4 fp)) (c__law_same : Cal P w K mg base 40 "_law_same" [] (spF C 2 fs)) (hf : ∀ ds, ds.length = 3 → Ref (f ds) (Flaw_few_told K C fc fl fp fs ds)) : Cal P w K mg base 41 "_law_few_told" [] (spF C 3 f) := by
  have c__law_profile : Cal P w K mg base 33 "_law_profile" [] (spF C 4 fp) := c1__law_profile.mono spF_fr
  refine cal_ofS (ps := ["_law_a", "_law_limit", "_law_looped"]) D sclaw_few_told (fun vs H Q E h => spF_len vs H Q E h) (fun _ _ _ _ _ _ us hl => match us, hl with | [_, _, _], _ => rfl) (fun _ => rdFew K C fc fl fp fs) (fun vs H Q E h => few_sem h hf) fun f cdv A outer s H E hr => ?_
  exact (pss_cons (ps_set (i := 3) sclaw_few_told.nd rfl (by first | exact Or.inl rfl | exact Or.inr rfl) (pe_cal c__law_counts (hr.mono (by decide)) passL (pa_cons (pv 0) (pa_cons (pe_cal c__law_catalogue (hr.mono (by decide)) passL (pa_cons (pv 1) (pa_cons (pv 2) pa_nil))) pa_nil)))) (pss_cons (ps_set (i := 4) sclaw_few_told.nd rfl (by first | exact Or.inl rfl | exact Or.inr rfl) (pe_cal c1__law_profile (hr.mono (by decide)) passL (pa_cons (pv 0) (pa_cons (pv 1) (pa_cons (pv 2) (pa_cons pe_bl pa_nil)))))) (pss_cons (ps_if (pt_not (pt_val (pe_cal c__law_same (hr.mono (by decide)) passL (pa_cons (pe_tup (pa_cons pe_str (pa_cons (pv 3) pa_nil))) (pa_cons (pv 4) pa_nil))))) (pss_cons (ps_ret pe_bl) pss_nil) pss_nil) (pss_cons (ps_set (i := 5) sclaw_few_told.nd rfl (by first | exact Or.inl rfl | exact Or.inr rfl) (pe_ix ix_tup (pv 4) pe_int (fun _ _ => rfl))) (pss_cons (ps_expr (pe_bm PySem.F.plainAttrs_list PySem.F.slot_list_append PySem.F.type_list_append mt_append (pv 5) (pa_cons pe_int pa_nil))) (pss_cons (ps_asg pe_int (pg_sub (pv 5) pe_int set_list)) (pss_cons (ps_ret (pe_cal c__law_same (hr.mono (by decide)) passL (pa_cons (pe_tup (pa_cons pe_str (pa_cons (pv 3) pa_nil))) (pa_cons (pe_cal c__law_profile (hr.mono (by decide)) passL (pa_cons (pv 0) (pa_cons (pv 1) (pa_cons (pv 2) (pa_cons pe_bl pa_nil))))) pa_nil)))) pss_nil)))))))
end
end DL
end
section
set_option Elab.async false
set_option linter.all false
set_option maxRecDepth 100000
set_option maxHeartbeats 4000000
/-! RR: what each instance runs, as equations. -/
namespace DL
open PySem L2 GX TLX
section
variable {C : Addr} {EX : XK} {te ta tb tk : TE} {tA tB' : TA} {tt tu : TT} {r : R2} {K : PySem.W.Frag} {ts us : TS} {δ : List Sl} {wi wi1 : TI} {g g1 : TG} {vs vs1 : List Nat} {tt1 : TT} {tg th : TGn} {es : List PyData}
theorem run_var {i : Nat} : (reVar (C := C) (EX := EX) i).run = fun δ => (match δ[i]? with | some (.pu d) => .ok d | _ => .bad) := rfl
theorem run_c {v : V} : (reC (C := C) (EX := EX) v).run = fun δ => ofO (vD v) := rfl
theorem run_op [a : RE C EX ta] [b : RE C EX tb] [o : RO r] : (reOp (a := a) (b := b) (o := o)).run = fun δ => (a.run δ).bd fun d1 => (b.run δ).bd fun d2 => ofO (o.run d1 d2) := rfl
theorem run_cb {rb : List V → Hp → VK → Prop} [a : RA C EX tA] [o : RB rb] : (reCB (a := a) (o := o)).run = fun δ => (a.run δ).bd fun ds => ofO (o.run ds) := rfl
theorem run_anil : (raNil (C := C) (EX := EX)).run = fun δ => .ok [] := rfl
theorem run_acons [a : RE C EX te] [b : RA C EX tA] : (raCons (a := a) (b := b)).run = fun δ => (a.run δ).bd fun d => (b.run δ).bd fun ds => .ok (d :: ds) := rfl
theorem run_tup [a : RA C EX tA] : (reTup (a := a)).run = fun δ => (a.run δ).bd fun ds => if ds.length ≤ 100000 then .ok (.tuple ds) else .bad := rfl
theorem run_lst [a : RA C EX tA] : (reLst (a := a)).run = fun δ => (a.run δ).bd fun ds => if ds.length ≤ 100000 then .ok (.list ds) else .bad := rfl
theorem run_call0 {n : Nat} {f : PF} {dvs : List V} [a : RA C EX tA] : (reCall0 (C := C) (EX := EX) (n := n) (f := f) (dvs := dvs) (a := a)).run = fun δ => okR ((a.run δ).bd fun ds => runD n f dvs ds) := rfl
theorem run_call {n : Nat} {f : PF} {dvs : List V} [a : RA C EX tA] : (reCall (C := C) (EX := EX) (n := n) (f := f) (dvs := dvs) (a := a)).run = fun δ => (a.run δ).bd fun ds => runD n f dvs ds := rfl
theorem run_callN {n l1 l2 : Nat} {f : PF} [a : RA C EX tA] [b : RA C EX tB'] : (reCallN (n := n) (l1 := l1) (l2 := l2) (f := f) (a := a) (b := b)).run = fun δ => (a.run δ).bd fun ds => (b.run δ).bd fun es => if ds.length = l1 ∧ es.length = l2 then runF n f (ds ++ es) else .bad := rfl
theorem run_callN0 {n l1 l2 : Nat} {f : PF} [a : RA C EX tA] [b : RA C EX tB'] : (reCallN0 (n := n) (l1 := l1) (l2 := l2) (f := f) (a := a) (b := b)).run = fun δ => okR ((a.run δ).bd fun ds => (b.run δ).bd fun es => if ds.length = l1 ∧ es.length = l2 then runF n f (ds ++ es) else .bad) := rfl
theorem run_listG {n : Nat} {f : PG'} {dvs : List V} [a : RA C EX tA] : (reListG (C := C) (EX := EX) (n := n) (f := f) (dvs := dvs) (a := a)).run = fun δ => (a.run δ).bd fun ds => runGn n f dvs ds := rfl
theorem run_listGN {n l1 l2 : Nat} {f : PG'} [a : RA C EX tA] [b : RA C EX tB'] : (reListGN (C := C) (EX := EX) (n := n) (l1 := l1) (l2 := l2) (f := f) (a := a) (b := b)).run = fun δ => (a.run δ).bd fun ds => (b.run δ).bd fun es => if ds.length = l1 ∧ es.length = l2 ∧ (ds ++ es).length = n then lstG (f (ds ++ es)) else .bad := rfl
theorem run_test [a : RE C EX te] : (rtTest (a := a)).run = fun δ => (a.run δ).bd toB := rfl
theorem run_tb [a : RE C EX te] : (rtB (a := a)).run = fun δ => (a.run δ).bd toB := rfl
theorem run_tru [a : RE C EX te] : (rtTru (K := K) (a := a)).run = fun δ => (a.run δ).bd fun d => ofO (truD d) := rfl
theorem run_yes : (rtYes (C := C) (EX := EX)).run = fun δ => .ok true := rfl
theorem run_tand [a : RT C EX tt] [b : RT C EX tu] : (rtAnd (a := a) (b := b)).run = fun δ => (a.run δ).bd fun x => if x then b.run δ else .ok false := rfl
theorem run_tor [a : RT C EX tt] [b : RT C EX tu] : (rtOr (a := a) (b := b)).run = fun δ => (a.run δ).bd fun x => if x then .ok true else b.run δ := rfl
theorem run_tnot [a : RT C EX tt] : (rtNot (a := a)).run = fun δ => (a.run δ).bd fun x => .ok (!x) := rfl
theorem run_andV [a : RE C EX ta] [b : RE C EX tb] : (reAndV (a := a) (b := b)).run = fun δ => ((a.run δ).bd toB).bd fun x => if x then bB ((b.run δ).bd toB) else .ok (.bool false) := rfl
theorem run_orV [a : RE C EX ta] [b : RE C EX tb] : (reOrV (a := a) (b := b)).run = fun δ => ((a.run δ).bd toB).bd fun x => if x then .ok (.bool true) else bB ((b.run δ).bd toB) := rfl
theorem run_notV [a : RE C EX ta] : (reNotV (a := a)).run = fun δ => ((a.run δ).bd toB).bd fun x => .ok (.bool (!x)) := rfl
theorem run_ifE [c : RT C EX tt] [a : RE C EX ta] [b : RE C EX tb] : (reIf (c := c) (a := a) (b := b)).run = fun δ => (c.run δ).bd fun x => if x then a.run δ else b.run δ := rfl
theorem run_sl {tl th : TO} [a : RE C EX te] [b : RP C EX tl] [c : RP C EX th] : (reSl (K := K) (a := a) (b := b) (c := c)).run = fun δ => (a.run δ).bd fun d => slD d (b.run δ) (c.run δ) := rfl
theorem run_pno : (rpNo (C := C) (EX := EX)).run = fun δ => some none := rfl
theorem run_psome [a : RE C EX te] : (rpSome (a := a)).run = fun δ => toI (a.run δ) := rfl
theorem run_ilist [a : RE C EX te] : (riList (K := K) (a := a)).run = fun δ => toL (a.run δ) := rfl
theorem run_itup [a : RE C EX te] : (riTup (K := K) (a := a)).run = fun δ => toT (a.run δ) := rfl
theorem run_ienum [a : RE C EX te] : (riEnum (K := K) (a := a)).run = fun δ => (toL (a.run δ)).map (enumD 0) := rfl
theorem run_rng1 [a : RA C EX tA] : (riRng1 (a := a)).run = fun δ => rng1 (runA a.run δ) := rfl
theorem run_rng2 [a : RA C EX tA] : (riRng2 (a := a)).run = fun δ => rng2 (runA a.run δ) := rfl
theorem run_gname {i : Nat} : (rgName i).run = fun δ d => some (δ.set i (.pu d)) := rfl
theorem run_gwname {i : Nat} : (rgwName i vs).run = fun δ d => if i ∈ vs then some (δ.set i (.pu d)) else none := rfl
theorem run_lc [i : RI C EX wi] [gg : RGw g vs] [t : RT C EX tt] [e : RE C EX te] : (reLc (i := i) (gg := gg) (t := t) (e := e)).run = fun δ => lcAll (i.run δ) (gg.run (wipeA δ vs)) t.run e.run := rfl
theorem run_next : (rsNext (C := C) (EX := EX)).run = fun δ => .nx δ := rfl
theorem run_seq [a : RS C EX ts] [b : RS C EX us] : (rsSeq (a := a) (b := b)).run = fun δ => seqR (a.run δ) b.run := rfl
theorem run_asg {i : Nat} [a : RE C EX te] : (rsAsg (i := i) (a := a)).run = fun δ => asgR i (runW a.run δ) := rfl
theorem run_own {i : Nat} [a : RA C EX tA] : (rsOwn (i := i) (a := a)).run = fun δ => ownR i δ (a.run δ) := rfl
theorem run_append {i : Nat} [a : RE C EX te] : (rsAppend (K := K) (i := i) (a := a)).run = fun δ => appR i δ (owAt δ i) (runS a.run δ) := rfl
theorem run_extend {i : Nat} [a : RE C EX te] : (rsExtend (K := K) (i := i) (a := a)).run = fun δ => extR i δ (owAt δ i) (a.run δ) := rfl
theorem run_drop [a : RE C EX te] : (rsDrop (a := a)).run = fun δ => dropR δ (runS a.run δ) := rfl
theorem run_ret [a : RE C EX te] : (rsRet (a := a)).run = fun δ => retR (runW a.run δ) := rfl
theorem run_retN : (rsRetN (C := C) (EX := EX)).run = fun δ => .rt .none := rfl
theorem run_if [c : RT C EX tt] [a : RS C EX ts] [b : RS C EX us] : (rsIf (c := c) (a := a) (b := b)).run = fun δ => ifR (runT c.run δ) (fun _ => a.run δ) (fun _ => b.run δ) := rfl
theorem run_for [i : RI C EX wi] [gg : RG g] [b : RS C EX ts] : (rsFor (i := i) (gg := gg) (b := b)).run = fun δ => forA (i.run δ) gg.run b.run δ := rfl
theorem run_raise [a : RA C EX tA] : (rsRaise (a := a)).run = fun δ => raiseR (a.run δ) := rfl
theorem run_I0 {g : Int → Int → V} {i j : Int} : (roI0 g).run (.int i) (.int j) = vD (g i j) := rfl
theorem run_I {c : Int → Int → Prop} {g : Int → Int → V} [dc : ∀ i j, Decidable (c i j)] {i j : Int} : (roI c g).run (.int i) (.int j) = if c i j then vD (g i j) else none := rfl
theorem run_eq {x y : PyData} : roEq.run x y = (eqS x y).map .bool := rfl
theorem run_ne {x y : PyData} : roNe.run x y = (eqS x y).map fun b => .bool (!b) := rfl
theorem run_isN {x : PyData} : roIsN.run x .none = some (.bool (isN x)) := rfl
theorem run_notN {x : PyData} : roNotN.run x .none = some (.bool (!isN x)) := rfl
theorem run_ixT {ds : List PyData} {i : Int} : (roIxT (K := K)).run (.tuple ds) (.int i) = ixD ds i := rfl
theorem run_ixL {ds : List PyData} {i : Int} : (roIxL (K := K)).run (.list ds) (.int i) = ixD ds i := rfl
end
theorem bd_ok {α β : Type} {a : α} {f : α → Rn β} : (Rn.ok a).bd f = f a := rfl
theorem bd_ex {α β : Type} {n : Int} {f : α → Rn β} : (Rn.ex n).bd f = .ex n := rfl
theorem bd_bad {α β : Type} {f : α → Rn β} : (Rn.bad : Rn α).bd f = .bad := rfl
theorem ofO_some {α : Type} {a : α} : ofO (some a) = .ok a := rfl
theorem ofO_none {α : Type} : ofO (none : Option α) = .bad := rfl
theorem vD_int {i : Int} : vD (.int i) = some (.int i) := rfl
theorem vD_bl {b : Bool} : vD (.bl b) = some (.bool b) := rfl
theorem vD_non : vD .non = some .none := rfl
theorem vD_str {x : Str} : vD (.str x) = some (.str x) := rfl
theorem toB_bool {b : Bool} : toB (.bool b) = .ok b := rfl
end DL
end
section
set_option linter.all false
set_option maxRecDepth 100000
set_option maxHeartbeats 4000000
namespace DL
open PySem L2 GX
theorem maps_E (K : PySem.W.Frag) (C : Addr) (E : XK) (ds : List PyData) : Fcount_maps K C E ds = Fcount_maps K C E0 ds := by
  have un : ∀ E, (incount_maps K C E).run = RS.run C E (rdcount_maps K C E) := fun _ => rfl
  unfold Fcount_maps
  rw [un, un]
  simp only [run_seq, run_asg, run_if, run_for, run_raise, run_test, run_op, run_var, run_c, run_acons, run_anil, run_rng1, run_ret, run_next]
theorem cat_E (K : PySem.W.Frag) (C : Addr) (E : XK) (f : PF) (g : PG') (ds : List PyData) : Fcatalogue K C E f g ds = Fcatalogue K C E0 f g ds := by
  have un : ∀ E, (incatalogue K C E f g).run = RS.run C E (rdcatalogue K C E f g) := fun _ => rfl
  unfold Fcatalogue
  rw [un, un]
  simp only [run_seq, run_asg, run_own, run_drop, run_extend, run_if, run_for, run_raise, run_test, run_op, run_var, run_c, run_acons, run_anil, run_rng1, run_ret, run_next, run_call, run_call0, run_listGN]
theorem tw_E (K : PySem.W.Frag) (C : Addr) (E : XK) (f1 f2 f3 f4 : PF) (ds : List PyData) : Ftelling_web K C E f1 f2 f3 f4 ds = Ftelling_web K C E0 f1 f2 f3 f4 ds := by
  have un : ∀ E, (intelling_web K C E f1 f2 f3 f4).run = RS.run C E (rdtelling_web K C E f1 f2 f3 f4) := fun _ => rfl
  unfold Ftelling_web
  rw [un, un]
  simp only [run_seq, run_asg, run_own, run_drop, run_extend, run_if, run_for, run_raise, run_test, run_op, run_var, run_c, run_acons, run_anil, run_rng1, run_ret, run_next, run_call, run_call0, run_callN, run_listGN, run_orV, run_ifE, run_tb, run_cb, run_ilist, run_tup, run_retN]
theorem hp_E (K : PySem.W.Frag) (C : Addr) (E : XK) (f1 f2 f3 : PF) (ds : List PyData) : FhpR K C E f1 f2 f3 ds = FhpR K C E0 f1 f2 f3 ds := by
  have u1 : ∀ E, (inhpA K C E f1).run = RS.run C E (hpA K C E f1) := fun _ => rfl
  have u2 : ∀ E, (inhpB K C E f2).run = RS.run C E (hpB K C E f2) := fun _ => rfl
  unfold FhpR
  rw [u1, u1, u2, u2]
  simp only [run_asg, run_drop, run_op, run_var, run_c, run_acons, run_anil, run_call, run_callN]
end DL
end
section
set_option Elab.async false
set_option linter.all false
set_option maxRecDepth 100000
set_option maxHeartbeats 4000000
/-! CL: levels; defs that call themselves. -/
namespace DL
open PySem L2 GX PyProof.Rows TLX
section
variable {P : Program} {w : World} {K : PySem.W.Frag} {mg : Str → Option Value} {base : Heap} {C fI : Addr} {k k' n : Nat} {x : Str} {dvs : List V} {sp : Sp} {ks : List Str} {st : Stmt}
theorem FnOk.lift {CX : CXT} {f : Addr} {fd : FuncData} {ps : List Str} (h : k ≤ k') (F : FnOk P w K mg base CX k f fd ps sp) : FnOk P w K mg base CX k' f fd ps sp :=
  ⟨F.len, fun A outer s H args us vs Q E hr e0 hb r z => F.run A outer s H args us vs Q E (hr.mono h) e0 hb r z⟩
theorem Cal.lift (h : k ≤ k') (c : Cal P w K mg base k x dvs sp) : Cal P w K mg base k' x dvs sp := by
  obtain ⟨f, fd, ps, ds, h1, h2, h3, h4, h5⟩ := c.ex
  exact ⟨f, fd, ps, ds, h1, h2, FnOk.lift h h3, h4, h5⟩
/-- nothing is promised -/
theorem cal_bad {ps : List Str} (D : DefAt K mg st x []) (hn : ps.length = n)
    (hb : ∀ (kV doc pm : Value) (an : Option Addr) (cdv ct : Value) (us : List Value), us.length = ps.length → bindArgs (PySem.W.fnOf x x (defArgs st) (defBody st) (defScope st) .none kV doc pm an cdv ct) ⟨us, []⟩ = pure (ps.zip us)) :
    Cal P w K mg base k x [] (spF C n fun _ => .bad) := by
  obtain ⟨a, fd, h1, F⟩ := D
  refine ⟨a, fd, ps, [], h1, F.kp, ⟨fun vs H Q E h => ?_, fun A outer s H args us vs Q E hr e0 hb r z => ?_⟩, F.bindsN hb, .nil⟩
  · rw [hn]; exact spF_len vs H Q E h
  · obtain ⟨_, _, _, _, _, q⟩ := z
    exact q.elim
/-- the def that calls itself, d deep -/
def recF (F : PF → PF) : Nat → PF
  | 0 => fun _ => .bad
  | d + 1 => F (recF F d)
theorem rec_cal {F : PF → PF} (h0 : Cal P w K mg base 1 x [] (spF C n fun _ => .bad)) (hs : ∀ (k : Nat) (f : PF), 1 ≤ k → Cal P w K mg base k x [] (spF C n f) → Cal P w K mg base (k + 1) x [] (spF C n (F f))) : ∀ d : Nat, Cal P w K mg base (d + 1) x [] (spF C n (recF F d))
  | 0 => h0
  | d + 1 => hs (d + 1) _ (by omega) (rec_cal h0 hs d)
theorem ref_self {α : Type} {x : Rn α} : Ref x x := .inr rfl
end
end DL
end
section
set_option Elab.async false
set_option linter.all false
set_option warn.classDefReducibility false
set_option maxRecDepth 100000
set_option maxHeartbeats 4000000
namespace DL
open PySem L2 GX

/-! M1: the functions put together -/
section
variable (K : PySem.W.Frag) (C : Addr)
def fBit : PF := Fbit_of K C
def fFL : PF := Ffirst_loop K C
def fCode : PF := Fcode_of K C (fBit K C)
def fWoc : PF := Fweb_of_code K C (fBit K C)
def gRen : PG' := Fall_renamings K C
def fUnd : PF := Fcode_under K C (fBit K C)
def fChk : PF := Fcheck_limit K C E0
def fWith : PF := Fcode_with K C
def fLst : PF := Fis_least K C (fCode K C) (fUnd K C)
def gWebs0 : PG' := Fall_webs K C (fChk K C) (gRen K C) (fBit K C) (fWoc K C) (fWith K C) (fLst K C)
def fMaps : PF := Fcount_maps K C E0
def fNR : PF := Fneighbour_rows K C
def fFits : PF := Ffits K C
def gHoms : PG' := Fhoms K C (fMaps K C) (fNR K C) (fFits K C)
def fHoms : PF := Fcount_homs K C (gHoms K C)
def fMay : PF := Fmay_follow K C
def fComp : PF := recF (fun f => Fcompleted K C f (fMay K C)) 6
def fFind : PF := Ffind_renaming K C (fComp K C) (fNR K C)
def fCell : PF := Flaw_cell K C
def fDraws : PF := Flaw_draws K C (fCell K C)
def fWeb : PF := Flaw_web K C
def fMx : PF := Flaw_matrix K C
def fShuf : PF := Flaw_shuffle K C
def fRena : PF := Flaw_renamed K C
def fPerm : PF := Flaw_permutations K C
def fLcode : PF := Flaw_code K C
def fLlst : PF := Flaw_is_least K C (fLcode K C)
def fLcat0 : PF := Flaw_catalogue K C (fPerm K C) (fLlst K C)
def fLcnt : PF := Flaw_count K C
def fAlike : PF := Flaw_alike K C (fLcode K C) (fPerm K C)
def fHas : PF := Flaw_has_loop K C
end
def eD (p : Nat × Nat) : PyData := .tuple [.int p.1, .int p.2]
def wD (n : Nat) (es : List (Nat × Nat)) : PyData := .tuple [.int n, .tuple (es.map eD)]
def cw0 : List PyData := [wD 0 []]
def cw1 : List PyData := [wD 1 []]
def cw2 : List PyData := [wD 2 [], wD 2 [(0, 1)]]
def cw3 : List PyData := [wD 3 [], wD 3 [(0, 1)], wD 3 [(0, 1), (0, 2)], wD 3 [(0, 1), (0, 2), (1, 2)]]
def cw4 : List PyData := [wD 4 [], wD 4 [(0, 1)], wD 4 [(0, 1), (0, 2)], wD 4 [(0, 1), (0, 2), (1, 2)], wD 4 [(0, 1), (0, 2), (0, 3)], wD 4 [(0, 3), (1, 2)], wD 4 [(0, 1), (0, 3), (1, 2)], wD 4 [(0, 1), (0, 2), (0, 3), (1, 2)], wD 4 [(0, 2), (0, 3), (1, 2), (1, 3)], wD 4 [(0, 1), (0, 2), (0, 3), (1, 2), (1, 3)], wD 4 [(0, 1), (0, 2), (0, 3), (1, 2), (1, 3), (2, 3)]]
def cl0 : List PyData := [wD 0 []]
def cl1 : List PyData := [wD 1 [], wD 1 [(0, 0)]]
def cl2 : List PyData := [wD 2 [], wD 2 [(0, 0)], wD 2 [(0, 1)], wD 2 [(0, 0), (0, 1)], wD 2 [(0, 0), (1, 1)], wD 2 [(0, 0), (0, 1), (1, 1)]]
def cl3 : List PyData := [wD 3 [], wD 3 [(0, 0)], wD 3 [(0, 1)], wD 3 [(0, 0), (0, 1)], wD 3 [(0, 0), (1, 1)], wD 3 [(0, 0), (0, 1), (1, 1)], wD 3 [(0, 1), (0, 2)], wD 3 [(0, 0), (0, 1), (0, 2)], wD 3 [(0, 2), (1, 1)], wD 3 [(0, 0), (0, 2), (1, 1)], wD 3 [(0, 1), (0, 2), (1, 1)], wD 3 [(0, 0), (0, 1), (0, 2), (1, 1)], wD 3 [(0, 1), (0, 2), (1, 2)], wD 3 [(0, 0), (0, 1), (0, 2), (1, 2)], wD 3 [(0, 0), (0, 2), (1, 1), (1, 2)], wD 3 [(0, 0), (0, 1), (0, 2), (1, 1), (1, 2)], wD 3 [(0, 0), (1, 1), (2, 2)], wD 3 [(0, 0), (0, 1), (1, 1), (2, 2)], wD 3 [(0, 0), (0, 1), (0, 2), (1, 1), (2, 2)], wD 3 [(0, 0), (0, 1), (0, 2), (1, 1), (1, 2), (2, 2)]]
end DL
end
section
set_option Elab.async false
set_option linter.all false
set_option maxRecDepth 100000
set_option maxHeartbeats 4000000
/-! RF: loops of runs. -/
namespace DL
open PySem L2 GX
theorem forR_nx {g : List Sl → PyData → Option (List Sl)} {b : List Sl → Fl} (I : Nat → List Sl → Prop) : ∀ (ds : List PyData) (k : Nat) (δ : List Sl), I k δ → (∀ (j : Nat) (d : PyData) (δ' : List Sl), ds[j]? = some d → I (k + j) δ' → ∃ δ2 δ3, g δ' d = some δ2 ∧ b δ2 = .nx δ3 ∧ I (k + j + 1) δ3) →
    ∃ δ', forR g b ds δ = .nx δ' ∧ I (k + ds.length) δ'
  | [], k, δ, h0, _ => ⟨δ, rfl, h0⟩
  | d :: ds, k, δ, h0, hs => by
    obtain ⟨δ2, δ3, h1, h2, h3⟩ := hs 0 d δ rfl h0
    obtain ⟨δ', h4, h5⟩ := forR_nx I ds (k + 1) δ3 h3 fun j e δ' he hI => by
      obtain ⟨a, c, x, y, z⟩ := hs (j + 1) e δ' (by simpa using he) (by rw [show k + (j + 1) = k + 1 + j by omega]; exact hI)
      exact ⟨a, c, x, y, by rw [show k + 1 + j + 1 = k + (j + 1) + 1 by omega]; exact z⟩
    refine ⟨δ', ?_, by rw [List.length_cons, show k + (ds.length + 1) = k + 1 + ds.length by omega]; exact h5⟩
    unfold forR
    rw [h1]
    simp only [h2]
    exact h4
theorem seqR_nx {k : List Sl → Fl} {δ : List Sl} : seqR (.nx δ) k = k δ := rfl
theorem seqR_rt {k : List Sl → Fl} {d : PyData} : seqR (.rt d) k = .rt d := rfl
theorem seqR_ex {k : List Sl → Fl} {n : Int} : seqR (.ex n) k = .ex n := rfl
theorem forA_some {ds : List PyData} {g : List Sl → PyData → Option (List Sl)} {b : List Sl → Fl} {δ : List Sl} : forA (some ds) g b δ = forR g b ds δ := rfl
theorem ifR_t {a b : Unit → Fl} : ifR (.ok true) a b = a () := rfl
theorem ifR_f {a b : Unit → Fl} : ifR (.ok false) a b = b () := rfl
end DL
end
section
set_option Elab.async false
set_option linter.all false
set_option synthInstance.maxSize 1000000
set_option synthInstance.maxHeartbeats 4000000
set_option maxRecDepth 100000
set_option maxHeartbeats 4000000
/-! MD: the draws. -/
namespace DL
open PySem L2 GX
section
variable {C : Addr} {K : PySem.W.Frag}
theorem run_len {ds : List PyData} : (rbLen (K := K)).run [.list ds] = some (.int (ds.length : Int)) := rfl
theorem run_lenT {ds : List PyData} : (rbLen (K := K)).run [.tuple ds] = some (.int (ds.length : Int)) := rfl
theorem run_int {i : Int} : rbInt.run [.int i] = some (.int i) := rfl
theorem run_abs {i : Int} : rbAbs.run [.int i] = some (.int (if i < 0 then -i else i)) := rfl
def cv (ns : List Int) (i : Nat) : Int := match ns[i]? with
  | some z => if z < 0 then -z else z
  | none => 0
theorem cv_nn (ns : List Int) (i : Nat) : 0 ≤ cv ns i := by
  unfold cv
  split
  · split <;> omega
  · omega
/-- the script: a list that is read alone -/
def scD (ns : List Int) : PyData := .dict (ns.map fun i => (.int i, .none))
theorem run_lenF {K : PySem.W.Frag} {kvs : List (PyData × PyData)} : (rbLen (K := K)).run [.dict kvs] = some (.int (kvs.length : Int)) := rfl
theorem run_ixF {K : PySem.W.Frag} {kvs : List (PyData × PyData)} {i : Int} : (roIxL (K := K)).run (.dict kvs) (.int i) = ixD (kvs.map fun q => q.1) i := rfl
theorem cell_ok (ns : List Int) (i : Nat) : Flaw_cell K C [scD ns, .int (i : Int)] = .ok (.int (cv ns i)) := by
  have un : (inlaw_cell K C).run = RS.run C E0 (rdlaw_cell K C) := rfl
  unfold Flaw_cell scD
  rw [un]
  by_cases h : i < ns.length
  · have e : decide ((i : Int) < (ns.length : Int)) = true := decide_eq_true (by omega)
    have ex : ixD ((ns.map fun i : Int => (PyData.int i, PyData.none)).map fun q => q.1) (i : Int) = some (.int ns[i]) := by
      show ((ns.map fun i : Int => (PyData.int i, PyData.none)).map fun q => q.1)[i]? = _
      rw [List.map_map, List.getElem?_map, List.getElem?_eq_getElem h]; rfl
    have ec : cv ns i = if ns[i] < 0 then -ns[i] else ns[i] := by unfold cv; rw [List.getElem?_eq_getElem h]
    simp only [run_seq, run_if, run_test, run_op, run_var, run_cb, run_acons, run_anil, run_ret, run_c, run_next, runT, runW, startA, List.map_cons, List.map_nil, List.cons_append, List.nil_append, List.getElem?_cons_zero, List.getElem?_cons_succ, bd_ok, run_lenF, run_I0, List.length_map, e, vD, ofO, toB, ifR, run_ixF, ex, run_int, run_abs, retR, seqR, outF0, ec]
  · have e : decide ((i : Int) < (ns.length : Int)) = false := decide_eq_false (by omega)
    have ec : cv ns i = 0 := by unfold cv; rw [List.getElem?_eq_none (by omega)]
    simp only [run_seq, run_if, run_test, run_op, run_var, run_cb, run_acons, run_anil, run_ret, run_c, run_next, runT, runW, startA, List.map_cons, List.map_nil, List.cons_append, List.nil_append, List.getElem?_cons_zero, List.getElem?_cons_succ, bd_ok, run_lenF, run_I0, List.length_map, e, vD, ofO, toB, ifR, retR, seqR, outF0, ec]
/-! ### _law_draws -/
abbrev drI (K : PySem.W.Frag) : TS := tSeq (tDrop (tBM K "list" rAppend (tVar 5) (tCons (tOp (rI (fun _ j => 0 < j) fun i j => .int (i % j)) (tCB rInt1 (tCons (tVar 4) tNil)) (tVar 3)) tNil))) (tSeq (tAsg (tOp (rI CDiv fun i j => .int (i / j)) (tVar 4) (tVar 3)) (gName 4)) tNext)
theorem drI_ok {s0 s1 s2 s7 : Sl} {base c k : Int} {ds : List PyData} (hb : 0 < base) (hb2 : base < 1000) (hl : ds.length < 100000) :
    RS.run C E0 (drI K) [s0, s1, s2, .pu (.int base), .pu (.int c), .ow ds, .pu (.int k), s7] = .nx [s0, s1, s2, .pu (.int base), .pu (.int (c / base)), .ow (ds ++ [.int (c % base)]), .pu (.int k), s7] := by
  have hd : CDiv c base := ⟨hb, by omega⟩
  simp only [run_seq, run_append, run_asg, run_op, run_var, run_cb, run_acons, run_anil, run_next, runS, runW, List.getElem?_cons_zero, List.getElem?_cons_succ, bd_ok, run_int, run_I, hb, hd, if_true, vD, ofO, owAt, appR, hl, seqR, asgR, List.set_cons_zero, List.set_cons_succ]
/-- a loop that appends one more each time -/
theorem forR_app {g : List Sl → PyData → Option (List Sl)} {b : List Sl → Fl} {P : Int → Prop} {mk : List PyData → List Sl → Prop} (hs : ∀ (j : Nat) (ns : List Int) (δ : List Sl) (lo : Int), ns.length ≤ 1000 → mk (ns.map .int) δ → 0 ≤ lo → lo ≤ 1000 → ∃ δ2 δ3 n, g δ (.int lo) = some δ2 ∧ b δ2 = .nx δ3 ∧ P n ∧ mk ((ns ++ [n]).map .int) δ3) (n : Nat) (hn : n ≤ 500) (δ : List Sl) (h0 : mk [] δ) :
    ∃ (ns : List Int) (δ' : List Sl), ns.length = n ∧ (∀ m ∈ ns, P m) ∧ forR g b (rangeD 0 n) δ = .nx δ' ∧ mk (ns.map .int) δ' := by
  obtain ⟨δ', h1, ns, h2, h3, h4⟩ := forR_nx (g := g) (b := b) (fun k δ => ∃ ns : List Int, ns.length = k ∧ (∀ m ∈ ns, P m) ∧ mk (ns.map .int) δ) (rangeD 0 n) 0 δ ⟨[], rfl, (fun m hm => by cases hm), h0⟩ fun j d δ' hd ⟨ns, h1, h2, h3⟩ => by
    obtain ⟨hj, rfl⟩ := rangeD_get hd
    obtain ⟨δ2, δ3, m, q1, q2, q3, q4⟩ := hs j ns δ' (0 + (j : Int)) (by omega) h3 (by omega) (by omega)
    refine ⟨δ2, δ3, q1, q2, ns ++ [m], by rw [List.length_append, h1]; rfl, fun x hx => ?_, q4⟩
    rcases List.mem_append.mp hx with z | z
    · exact h2 x z
    · rw [List.mem_singleton.mp z]; exact q3
  exact ⟨ns, δ', by rw [h2, rangeD_len, Nat.zero_add], h3, h1, h4⟩
abbrev drJ (K : PySem.W.Frag) : TS := (tSeq (tAsg (tOp (rI (fun _ j => 0 < j) fun i j => .int (i % j)) (tCB rInt1 (tCons (tOp (rI0 fun i j => .int (i + j)) (tOp (rI0 fun i j => .int (i + j)) (tOp (rI CMul fun i j => .int (i * j)) (tVar 4) (tC (.int 48271))) (tOp (rI CMul fun i j => .int (i * j)) (tOp (rI0 fun i j => .int (i + j)) (tVar 6) (tC (.int 1))) (tC (.int 69621)))) (tC (.int 17))) tNil)) (tC (.int 2147483647))) (gName 7)) (tSeq (tAsg (tOp (rI (fun _ j => 0 < j) fun i j => .int (i % j)) (tCB rInt1 (tCons (tOp (rI0 fun i j => .int (i + j)) (tOp (rI0 fun i j => .int (i + j)) (tOp (rI CMul fun i j => .int (i * j)) (tVar 7) (tVar 7)) (tOp (rI CMul fun i j => .int (i * j)) (tVar 4) (tOp (rI0 fun i j => .int (i + j)) (tVar 6) (tC (.int 3))))) (tC (.int 12345))) tNil)) (tC (.int 1000003))) (gName 7)) (tSeq (tDrop (tBM K "list" rAppend (tVar 5) (tCons (tOp (rI (fun _ j => 0 < j) fun i j => .int (i % j)) (tCB rInt1 (tCons (tOp (rI CDiv fun i j => .int (i / j)) (tVar 7) (tC (.int 7))) tNil)) (tVar 3)) tNil))) tNext)))
theorem drJ_ok {s0 s1 s2 s7 : Sl} {base c k : Int} {ds : List PyData} (hb : 0 < base) (hb2 : base < 1000) (hl : ds.length < 100000) (hk : 0 ≤ k) (hk2 : k ≤ 1000) :
    ∃ m m' : Int, RS.run C E0 (drJ K) [s0, s1, s2, .pu (.int base), .pu (.int c), .ow ds, .pu (.int k), s7] = .nx [s0, s1, s2, .pu (.int base), .pu (.int c), .ow (ds ++ [.int (m % base)]), .pu (.int k), .pu (.int m')] := by
  have h1 : CMul c 48271 := .inr ⟨by decide, by decide⟩
  have h2 : CMul (k + 1) 69621 := .inr ⟨by decide, by decide⟩
  have h3 : ∀ x : Int, CMul (x % 2147483647) (x % 2147483647) := fun x => .inl ⟨by have := Int.emod_nonneg x (show (2147483647 : Int) ≠ 0 by decide); omega, by have := Int.emod_lt_of_pos x (show (0 : Int) < 2147483647 by decide); omega⟩
  have h4 : CMul c (k + 3) := .inr ⟨by omega, by omega⟩
  have h5 : ∀ x : Int, CDiv x 7 := fun x => ⟨by decide, by decide⟩
  have p1 : (0 : Int) < 2147483647 := by decide
  have p2 : (0 : Int) < 1000003 := by decide
  refine ⟨(((c * 48271 + (k + 1) * 69621 + 17) % 2147483647) * ((c * 48271 + (k + 1) * 69621 + 17) % 2147483647) + c * (k + 3) + 12345) % 1000003 / 7, (((c * 48271 + (k + 1) * 69621 + 17) % 2147483647) * ((c * 48271 + (k + 1) * 69621 + 17) % 2147483647) + c * (k + 3) + 12345) % 1000003, ?_⟩
  simp only [run_seq, run_append, run_asg, run_op, run_var, run_cb, run_acons, run_anil, run_next, run_c, runS, runW, List.getElem?_cons_zero, List.getElem?_cons_succ, bd_ok, run_int, run_I, run_I0, hb, h1, h2, h3, h4, h5, p1, p2, if_true, vD, ofO, owAt, appR, hl, seqR, asgR, List.set_cons_zero, List.set_cons_succ]
theorem emod_in {m base : Int} (hb : 0 < base) : 0 ≤ m % base ∧ m % base < base := ⟨Int.emod_nonneg m (by omega), Int.emod_lt_of_pos m hb⟩
/-- the draws: as many as asked for, each below the base -/
theorem draws_ok (ns : List Int) (i n b : Nat) (hn : n ≤ 100) (hb : 0 < b) (hb2 : b < 1000) {fc : PF} (hc : ∀ i : Nat, fc [scD ns, .int (i : Int)] = .ok (.int (cv ns i))) :
    ∃ ms : List Int, ms.length = n ∧ (∀ m ∈ ms, 0 ≤ m ∧ m < b) ∧ Flaw_draws K C fc [scD ns, .int (i : Int), .int (n : Int), .int (b : Int)] = .ok (.list (ms.map .int)) := by
  have un : (inlaw_draws K C fc).run = RS.run C E0 (rdlaw_draws K C fc) := rfl
  have hb' : (0 : Int) < (b : Int) := by omega
  have hp : CPow 10 18 := ⟨by decide, by decide, by decide⟩
  have hr : runD 2 fc [] [scD ns, .int (i : Int)] = .ok (.int (cv ns i)) := by
    simp [runD, vDs, runF, hc]
  have er : ∀ (s0 s1 s3 s4 s5 s6 s7 : Sl), rng1 (runA (RA.run C E0 (tCons (tVar 2) tNil)) [s0, s1, .pu (.int (n : Int)), s3, s4, s5, s6, s7]) = some (rangeD 0 n) := fun s0 s1 s3 s4 s5 s6 s7 => by
    simp only [runA, run_acons, run_var, run_anil, List.getElem?_cons_zero, List.getElem?_cons_succ, bd_ok]
    show rng1 (some [.int (Int.ofNat n)]) = _
    unfold rng1
    simp only [show n ≤ 1000000 by omega, if_true]
  by_cases hbig : (10 : Int) ^ 18 ≤ cv ns i
  · obtain ⟨ms, δ', h1, h2, h3, h4⟩ := forR_app (g := (rgName 6).run) (b := RS.run C E0 (drI K)) (P := fun m => 0 ≤ m ∧ m < (b : Int)) (mk := fun ds δ => ∃ c s6, δ = [.pu (scD ns), .pu (.int (i : Int)), .pu (.int (n : Int)), .pu (.int (b : Int)), .pu (.int c), .ow ds, s6, .any])
      (fun j l δ lo hl hm _ _ => by
        obtain ⟨c, s6, rfl⟩ := hm
        exact ⟨_, _, c % (b : Int), rfl, drI_ok hb' (by omega) (by rw [List.length_map]; omega), emod_in hb', _, _, by rw [List.map_append]; rfl⟩) n (by omega) [.pu (scD ns), .pu (.int (i : Int)), .pu (.int (n : Int)), .pu (.int (b : Int)), .pu (.int (cv ns i - 10 ^ 18)), .ow [], .any, .any] ⟨_, _, rfl⟩
    obtain ⟨c, s6, rfl⟩ := h4
    refine ⟨ms, h1, h2, ?_⟩
    have h18 : (18 : Int).toNat = 18 := rfl
    have e : decide ((10 : Int) ^ 18 ≤ cv ns i) = true := decide_eq_true hbig
    unfold Flaw_draws
    rw [un]
    have hfor : RS.run C E0 (tFor (iRng1 (tCons (tVar 2) tNil)) (gName 6) (drI K)) [.pu (scD ns), .pu (.int (i : Int)), .pu (.int (n : Int)), .pu (.int (b : Int)), .pu (.int (cv ns i - 10 ^ 18)), .ow [], .any, .any] = .nx [.pu (scD ns), .pu (.int (i : Int)), .pu (.int (n : Int)), .pu (.int (b : Int)), .pu (.int c), .ow (ms.map .int), s6, .any] := by
      rw [run_for, run_rng1]
      dsimp only
      rw [er, forA_some]
      exact h3
    simp only [run_seq, run_own, run_asg, run_if, run_test, run_op, run_var, run_call0, run_acons, run_anil, run_next, run_c, run_ret, runT, runW, runS, startA, List.map_cons, List.map_nil, List.cons_append, List.nil_append, List.getElem?_cons_zero, List.getElem?_cons_succ, List.length_cons, List.length_nil, List.replicate, bd_ok, hr, okR, seqR, asgR, List.set_cons_zero, List.set_cons_succ, ownR, Nat.zero_le, if_true, run_I, run_I0, hp, vD, ofO, toB, h18, e, ifR, owIx, tryAt, frzAt, shal, flat1, retR, outF0, Bool.false_eq_true, if_false, hfor]
  · obtain ⟨ms, δ', h1, h2, h3, h4⟩ := forR_app (g := (rgName 6).run) (b := RS.run C E0 (drJ K)) (P := fun m => 0 ≤ m ∧ m < (b : Int)) (mk := fun ds δ => ∃ s6 s7, δ = [.pu (scD ns), .pu (.int (i : Int)), .pu (.int (n : Int)), .pu (.int (b : Int)), .pu (.int (cv ns i)), .ow ds, s6, s7])
      (fun j l δ lo hl hm h0 h1000 => by
        obtain ⟨s6, s7, rfl⟩ := hm
        obtain ⟨m, m', hq⟩ := drJ_ok (C := C) (K := K) (s0 := .pu (scD ns)) (s1 := .pu (.int (i : Int))) (s2 := .pu (.int (n : Int))) (s7 := s7) (c := cv ns i) (ds := l.map .int) hb' (by omega) (by rw [List.length_map]; omega) h0 h1000
        exact ⟨_, _, m % (b : Int), rfl, hq, emod_in hb', _, _, by rw [List.map_append]; rfl⟩) n (by omega) [.pu (scD ns), .pu (.int (i : Int)), .pu (.int (n : Int)), .pu (.int (b : Int)), .pu (.int (cv ns i)), .ow [], .any, .any] ⟨_, _, rfl⟩
    obtain ⟨s6, s7, rfl⟩ := h4
    refine ⟨ms, h1, h2, ?_⟩
    have h18 : (18 : Int).toNat = 18 := rfl
    have e : decide ((10 : Int) ^ 18 ≤ cv ns i) = false := decide_eq_false hbig
    unfold Flaw_draws
    rw [un]
    have hfor : RS.run C E0 (tFor (iRng1 (tCons (tVar 2) tNil)) (gName 6) (drJ K)) [.pu (scD ns), .pu (.int (i : Int)), .pu (.int (n : Int)), .pu (.int (b : Int)), .pu (.int (cv ns i)), .ow [], .any, .any] = .nx [.pu (scD ns), .pu (.int (i : Int)), .pu (.int (n : Int)), .pu (.int (b : Int)), .pu (.int (cv ns i)), .ow (ms.map .int), s6, s7] := by
      rw [run_for, run_rng1]
      dsimp only
      rw [er, forA_some]
      exact h3
    simp only [run_seq, run_own, run_asg, run_if, run_test, run_op, run_var, run_call0, run_acons, run_anil, run_next, run_c, run_ret, runT, runW, runS, startA, List.map_cons, List.map_nil, List.cons_append, List.nil_append, List.getElem?_cons_zero, List.getElem?_cons_succ, List.length_cons, List.length_nil, List.replicate, bd_ok, hr, okR, seqR, asgR, List.set_cons_zero, List.set_cons_succ, ownR, Nat.zero_le, if_true, run_I, run_I0, hp, vD, ofO, toB, h18, e, ifR, owIx, tryAt, frzAt, shal, flat1, retR, outF0, Bool.false_eq_true, if_false, hfor]
end
end DL
end
section
set_option Elab.async false
set_option linter.all false
set_option synthInstance.maxSize 1000000
set_option synthInstance.maxHeartbeats 4000000
set_option maxRecDepth 100000
set_option maxHeartbeats 4000000
/-! MH: homs by its mirror. -/
namespace DL
open PySem L2 GX
def iL (l : List Nat) : List PyData := l.map fun (n : Nat) => .int (n : Int)
def lL (l : List (List Nat)) : List PyData := l.map fun r => .list (iL r)
theorem iL_len (l : List Nat) : (iL l).length = l.length := by unfold iL; rw [List.length_map]
theorem iL_get {l : List Nat} {i : Nat} (h : i < l.length) : (iL l)[i]? = some (.int (l[i] : Nat)) := by
  unfold iL
  rw [List.getElem?_map, List.getElem?_eq_getElem h]; rfl
theorem lL_get {l : List (List Nat)} {i : Nat} (h : i < l.length) : (lL l)[i]? = some (.list (iL l[i])) := by
  unfold lL
  rw [List.getElem?_map, List.getElem?_eq_getElem h]; rfl
theorem dVs_iL : ∀ l : List Nat, dVs (iL l) = some (l.map fun n : Nat => V.int (n : Int))
  | [] => rfl
  | n :: l => by
    show (match dV (.int (n : Int)), dVs (iL l) with | some v, some vs => some (v :: vs) | _, _ => none) = _
    rw [dVs_iL l]
    rfl
theorem inV_int (n : Nat) (l : List Nat) : inV (.int (n : Int)) (l.map fun n : Nat => V.int (n : Int)) = decide (n ∈ l) := by
  unfold inV
  rw [List.any_map, Bool.eq_iff_iff]
  simp only [List.any_eq_true, Function.comp, eqV, beq_iff_eq, decide_eq_true_eq]
  constructor
  · rintro ⟨x, hx, e⟩
    have : x = n := by omega
    exact this ▸ hx
  · exact fun h => ⟨n, h, rfl⟩
section
variable {C : Addr} {K : PySem.W.Frag}
theorem run_in {neg : Bool} {d : PyData} {ds : List PyData} : (roIn (K := K) neg).run d (.list ds) = inD neg d ds := rfl
theorem inD_int {neg : Bool} {n : Nat} {l : List Nat} : inD neg (.int (n : Int)) (iL l) = some (.bool (if neg then !(decide (n ∈ l)) else decide (n ∈ l))) := by
  unfold inD
  rw [dVs_iL]
  show some (PyData.bool (if neg then !inV _ _ else inV _ _)) = _
  rw [inV_int]
/-! ### fits -/
def part (row : List Nat) (value node : Nat) : Nat := if h : node < row.length then row[node] else value
def fitB (er nv row : List Nat) (value : Nat) : Bool := er.all fun node => decide (part row value node ∈ nv)
abbrev fitT (K : PySem.W.Frag) : TS := tSeq (tAsg (tIf (tTest (tOp (rI0 fun i j => .bl (decide (i < j))) (tVar 4) (tCB (rLenQ K) (tCons (tVar 2) tNil)))) (tOp (rIxL K) (tVar 2) (tVar 4)) (tVar 3)) (gName 5)) (tSeq (tIfS (tTest (tOp (rIn K true) (tVar 5) (tOp (rIxL K) (tVar 1) (tVar 3)))) (tSeq (tRet (tC (.bl false))) tNext) tNext) tNext)
theorem lt_dec {a b : Nat} : decide ((a : Int) < (b : Int)) = decide (a < b) := by
  by_cases h : a < b
  · rw [decide_eq_true h, decide_eq_true (by omega)]
  · rw [decide_eq_false h, decide_eq_false (by omega)]
theorem ixD_iL {l : List Nat} {i : Nat} (h : i < l.length) : ixD (iL l) (i : Int) = some (.int (l[i] : Nat)) := iL_get h
theorem ixD_lL {l : List (List Nat)} {i : Nat} (h : i < l.length) : ixD (lL l) (i : Int) = some (.list (iL l[i])) := lL_get h
theorem fitT_ok {er near : List (List Nat)} {row : List Nat} {value node : Nat} {s5 : Sl} (hv : value < near.length) :
    RS.run C E0 (fitT K) [.pu (.list (lL er)), .pu (.list (lL near)), .pu (.list (iL row)), .pu (.int (value : Int)), .pu (.int (node : Int)), s5] =
      if part row value node ∈ near[value] then .nx [.pu (.list (lL er)), .pu (.list (lL near)), .pu (.list (iL row)), .pu (.int (value : Int)), .pu (.int (node : Int)), .pu (.int (part row value node : Nat))] else .rt (.bool false) := by
  have ep : (RE.run C E0 (tIf (tTest (tOp (rI0 fun i j => .bl (decide (i < j))) (tVar 4) (tCB (rLenQ K) (tCons (tVar 2) tNil)))) (tOp (rIxL K) (tVar 2) (tVar 4)) (tVar 3))) [.pu (.list (lL er)), .pu (.list (lL near)), .pu (.list (iL row)), .pu (.int (value : Int)), .pu (.int (node : Int)), s5] = .ok (.int (part row value node : Nat)) := by
    by_cases h : node < row.length
    · have e : decide (node < row.length) = true := decide_eq_true h
      simp only [run_ifE, run_test, run_op, run_var, run_cb, run_acons, run_anil, List.getElem?_cons_zero, List.getElem?_cons_succ, bd_ok, run_len, iL_len, run_I0, lt_dec, e, vD, ofO, toB, if_true, run_ixL, ixD_iL h, part, dif_pos h]
    · have e : decide (node < row.length) = false := decide_eq_false h
      simp only [run_ifE, run_test, run_op, run_var, run_cb, run_acons, run_anil, List.getElem?_cons_zero, List.getElem?_cons_succ, bd_ok, run_len, iL_len, run_I0, lt_dec, e, vD, ofO, toB, if_false, Bool.false_eq_true, part, dif_neg h]
  by_cases hm : part row value node ∈ near[value]
  · have e : decide (part row value node ∈ near[value]) = true := decide_eq_true hm
    simp only [run_seq, run_asg, runW, ep, asgR, seqR, run_if, runT, run_test, run_op, run_var, List.set_cons_zero, List.set_cons_succ, List.getElem?_cons_zero, List.getElem?_cons_succ, bd_ok, run_ixL, ixD_lL hv, run_in, inD_int, e, ofO, toB, if_true, Bool.not_true, ifR, run_next, if_pos hm]
  · have e : decide (part row value node ∈ near[value]) = false := decide_eq_false hm
    simp only [run_seq, run_asg, runW, ep, asgR, seqR, run_if, runT, run_test, run_op, run_var, List.set_cons_zero, List.set_cons_succ, List.getElem?_cons_zero, List.getElem?_cons_succ, bd_ok, run_ixL, ixD_lL hv, run_in, inD_int, e, ofO, toB, if_true, Bool.not_false, ifR, run_next, run_ret, run_c, vD, retR, if_neg hm]
theorem fitL_ok {E0' near : List (List Nat)} {row : List Nat} {value : Nat} (hv : value < near.length) : ∀ (er : List Nat) (s4 s5 : Sl), ∃ s4' s5', forR (rgName 4).run (RS.run C E0 (fitT K)) (iL er) [.pu (.list (lL E0')), .pu (.list (lL near)), .pu (.list (iL row)), .pu (.int (value : Int)), s4, s5] =
    if fitB er near[value] row value = true then .nx [.pu (.list (lL E0')), .pu (.list (lL near)), .pu (.list (iL row)), .pu (.int (value : Int)), s4', s5'] else .rt (.bool false)
  | [], s4, s5 => ⟨s4, s5, rfl⟩
  | node :: er, s4, s5 => by
    have h1 := fitT_ok (C := C) (K := K) (er := E0') (row := row) (node := node) (s5 := s5) hv
    by_cases hm : part row value node ∈ near[value]
    · rw [if_pos hm] at h1
      obtain ⟨s4', s5', h2⟩ := fitL_ok hv er (.pu (.int (node : Int))) (.pu (.int (part row value node : Nat)))
      refine ⟨s4', s5', ?_⟩
      have ef : fitB (node :: er) near[value] row value = fitB er near[value] row value := by
        unfold fitB
        rw [List.all_cons, decide_eq_true hm, Bool.true_and]
      rw [ef, ← h2]
      show forR _ _ (.int (node : Int) :: iL er) _ = _
      rw [forR]
      simp only [run_gname, List.set_cons_zero, List.set_cons_succ, h1]
    · rw [if_neg hm] at h1
      refine ⟨s4, s5, ?_⟩
      have ef : fitB (node :: er) near[value] row value = false := by
        unfold fitB
        rw [List.all_cons, decide_eq_false hm, Bool.false_and]
      rw [ef, if_neg Bool.false_ne_true]
      show forR _ _ (.int (node : Int) :: iL er) _ = _
      rw [forR]
      simp only [run_gname, List.set_cons_zero, List.set_cons_succ, h1]
theorem fits_ok {er near : List (List Nat)} {row : List Nat} {value : Nat} (hv : value < near.length) (hr : row.length < er.length) :
    Ffits K C [.list (lL er), .list (lL near), .list (iL row), .int (value : Int)] = .ok (.bool (fitB er[row.length] near[value] row value)) := by
  have un : (infits K C).run = RS.run C E0 (rdfits K C) := rfl
  obtain ⟨s4, s5, h⟩ := fitL_ok (C := C) (K := K) (E0' := er) (row := row) hv er[row.length] .any .any
  have hfor : RS.run C E0 (tFor (iList K (tOp (rIxL K) (tVar 0) (tCB (rLenQ K) (tCons (tVar 2) tNil)))) (gName 4) (fitT K)) [.pu (.list (lL er)), .pu (.list (lL near)), .pu (.list (iL row)), .pu (.int (value : Int)), .any, .any] =
      if fitB er[row.length] near[value] row value = true then .nx [.pu (.list (lL er)), .pu (.list (lL near)), .pu (.list (iL row)), .pu (.int (value : Int)), s4, s5] else .rt (.bool false) := by
    rw [run_for]
    have ei : (RI.run C E0 (iList K (tOp (rIxL K) (tVar 0) (tCB (rLenQ K) (tCons (tVar 2) tNil))))) [.pu (.list (lL er)), .pu (.list (lL near)), .pu (.list (iL row)), .pu (.int (value : Int)), .any, .any] = some (iL er[row.length]) := by
      simp only [run_ilist, run_op, run_var, run_cb, run_acons, run_anil, List.getElem?_cons_zero, List.getElem?_cons_succ, bd_ok, run_len, iL_len, ofO, run_ixL, ixD_lL hr, toL]
    dsimp only
    rw [ei, forA_some, h]
  unfold Ffits
  rw [un]
  cases e : fitB er[row.length] near[value] row value with
  | true =>
    rw [e, if_pos rfl] at hfor
    simp only [run_seq, startA, List.map_cons, List.map_nil, List.cons_append, List.nil_append, List.length_cons, List.length_nil, List.replicate, hfor, seqR, run_ret, runW, run_c, ofO, vD, retR, outF0]
  | false =>
    rw [e, if_neg Bool.false_ne_true] at hfor
    simp only [run_seq, startA, List.map_cons, List.map_nil, List.cons_append, List.nil_append, List.length_cons, List.length_nil, List.replicate, hfor, seqR, outF0]
/-! ### homs: one turn -/
theorem run_gthen {tg th : TGn} [a : RGn C E0 tg] [b : RGn C E0 th] : (rgThen (a := a) (b := b)).run = fun es δ => thenR (a.run es δ) b.run := rfl
theorem run_g0 : (rgNil (C := C) (EX := E0)).run = fun es δ => .nx es δ := rfl
theorem run_gif {tt : TT} {tg th : TGn} [c : RT C E0 tt] [a : RGn C E0 tg] [b : RGn C E0 th] : (rgIf (c := c) (a := a) (b := b)).run = fun es δ => gifR (runT c.run δ) (fun _ => a.run es δ) (fun _ => b.run es δ) := rfl
theorem run_gplain {ts : TS} [a : RS C E0 ts] : (rgPlain (a := a)).run = fun es δ => plainR es (a.run δ) := rfl
theorem run_gyield {te : TE} [a : RE C E0 te] : (rgYield (a := a)).run = fun es δ => yieldR es δ (runS a.run δ) := rfl
theorem run_popadd {i j : Nat} : (rsPopAdd (C := C) (EX := E0) (K := K) (i := i) (j := j)).run = fun δ => popR i j δ (owAt δ i) := rfl
theorem run_tupL {ds : List PyData} : (rbTup (K := K)).run [.list ds] = some (.tuple ds) := rfl
abbrev hBody (K : PySem.W.Frag) (C : Addr) (f_fits : PF) : TGn := (tGThen (tGIf (tTest (tOp rEq (tCB (rLenQ K) (tCons (tVar 4) tNil)) (tOp (rIxT K) (tVar 0) (tC (.int 0))))) (tGThen (tGYield (tCB (rTupQ K) (tCons (tVar 4) tNil))) tG0) tG0) (tGThen (tPlain (tIfS (tOr (tTest (tOp rEq (tCB (rLenQ K) (tCons (tVar 4) tNil)) (tOp (rIxT K) (tVar 0) (tC (.int 0))))) (tTest (tOp rEq (tVar 5) (tOp (rIxT K) (tVar 1) (tC (.int 0)))))) (tSeq (tIfS (tNot (tTru K (tVar 4))) (tSeq tRetN tNext) tNext) (tSeq (tAsg (tOp (rI0 fun i j => .int (i + j)) (tBM0 K "list" rPop (tVar 4)) (tC (.int 1))) (gName 5)) tNext)) (tSeq (tIfS (tB (tCall (spF C 4 f_fits) [] E0 (tCons (tVar 2) (tCons (tVar 3) (tCons (tVar 4) (tCons (tVar 5) tNil)))))) (tSeq (tDrop (tBM K "list" rAppend (tVar 4) (tCons (tVar 5) tNil))) (tSeq (tAsg (tC (.int 0)) (gName 5)) tNext)) (tSeq (tAsg (tOp (rI0 fun i j => .int (i + j)) (tVar 5) (tC (.int 1))) (gName 5)) tNext)) tNext))) tG0))
def hDel (x0 a0 : Nat) (X A : PyData) (er near : List (List Nat)) (row : List Nat) (v : Nat) (s6 s7 s8 : Sl) : List Sl := [.pu (.tuple [.int (x0 : Int), X]), .pu (.tuple [.int (a0 : Int), A]), .pu (.list (lL er)), .pu (.list (lL near)), .ow (iL row), .pu (.int (v : Int)), s6, s7, s8]
theorem eq_dec {a b : Nat} : decide ((a : Int) = (b : Int)) = decide (a = b) := by
  by_cases h : a = b
  · rw [decide_eq_true h, decide_eq_true (by omega)]
  · rw [decide_eq_false h, decide_eq_false (by omega)]
theorem iL_app (l m : List Nat) : iL (l ++ m) = iL l ++ iL m := by unfold iL; rw [List.map_append]
theorem iL_emp (l : List Nat) : (iL l).isEmpty = l.isEmpty := by cases l <;> rfl
variable {x0 a0 : Nat} {X A : PyData} {er near : List (List Nat)} {row : List Nat} {v : Nat} {s6 s7 s8 : Sl} {es : List PyData}
/-- the test len(row) == x[0] -/
theorem tLen_ok : runT (RT.run C E0 (tTest (tOp rEq (tCB (rLenQ K) (tCons (tVar 4) tNil)) (tOp (rIxT K) (tVar 0) (tC (.int 0)))))) (hDel x0 a0 X A er near row v s6 s7 s8) = .ok (decide (row.length = x0)) := by
  have e0 : ixD [PyData.int (x0 : Int), X] 0 = some (.int (x0 : Int)) := rfl
  simp only [hDel, runT, run_test, run_op, run_var, run_cb, run_acons, run_anil, run_c, List.getElem?_cons_zero, List.getElem?_cons_succ, bd_ok, bd_bad, frz, frzS, List.map_cons, List.map_nil, run_len, iL_len, ofO, vD, run_ixT, e0, run_eq, eqS, Option.map_some, eq_dec, toB]
theorem tOr_ok : runT (RT.run C E0 (tOr (tTest (tOp rEq (tCB (rLenQ K) (tCons (tVar 4) tNil)) (tOp (rIxT K) (tVar 0) (tC (.int 0))))) (tTest (tOp rEq (tVar 5) (tOp (rIxT K) (tVar 1) (tC (.int 0))))))) (hDel x0 a0 X A er near row v s6 s7 s8) = .ok (decide (row.length = x0) || decide (v = a0)) := by
  have e0 : ixD [PyData.int (x0 : Int), X] 0 = some (.int (x0 : Int)) := rfl
  have e1 : ixD [PyData.int (a0 : Int), A] 0 = some (.int (a0 : Int)) := rfl
  by_cases h : row.length = x0
  · have e : decide (row.length = x0) = true := decide_eq_true h
    simp only [hDel, runT, run_tor, run_test, run_op, run_var, run_cb, run_acons, run_anil, run_c, List.getElem?_cons_zero, List.getElem?_cons_succ, bd_ok, bd_bad, frz, frzS, List.map_cons, List.map_nil, run_len, iL_len, ofO, vD, run_ixT, e0, e1, run_eq, eqS, Option.map_some, eq_dec, toB, e, if_true, Bool.true_or]
  · have e : decide (row.length = x0) = false := decide_eq_false h
    simp only [hDel, runT, run_tor, run_test, run_op, run_var, run_cb, run_acons, run_anil, run_c, List.getElem?_cons_zero, List.getElem?_cons_succ, bd_ok, bd_bad, frz, frzS, List.map_cons, List.map_nil, run_len, iL_len, ofO, vD, run_ixT, e0, e1, run_eq, eqS, Option.map_some, eq_dec, toB, e, if_false, Bool.false_eq_true, Bool.false_or]
theorem tEmp_ok : runT (RT.run C E0 (tNot (tTru K (tVar 4)))) (hDel x0 a0 X A er near row v s6 s7 s8) = .ok row.isEmpty := by
  simp only [hDel, runT, run_tnot, run_tru, run_var, List.getElem?_cons_zero, List.getElem?_cons_succ, bd_ok, bd_bad, frz, frzS, List.map_cons, List.map_nil, truD, ofO, iL_emp, Bool.not_not]
theorem tFit_ok {f : PF} (hf : f [.list (lL er), .list (lL near), .list (iL row), .int (v : Int)] = .ok (.bool (fitB (er[row.length]?.getD []) (near[v]?.getD []) row v))) : runT (RT.run C E0 (tB (tCall (spF C 4 f) [] E0 (tCons (tVar 2) (tCons (tVar 3) (tCons (tVar 4) (tCons (tVar 5) tNil))))))) (hDel x0 a0 X A er near row v s6 s7 s8) = .ok (fitB (er[row.length]?.getD []) (near[v]?.getD []) row v) := by
  have hr : runD 4 f [] [.list (lL er), .list (lL near), .list (iL row), .int (v : Int)] = .ok (.bool (fitB (er[row.length]?.getD []) (near[v]?.getD []) row v)) := by simp [runD, vDs, runF, hf]
  simp only [hDel, runT, run_tb, run_call0, run_var, run_acons, run_anil, List.getElem?_cons_zero, List.getElem?_cons_succ, bd_ok, bd_bad, frz, frzS, List.map_cons, List.map_nil, okR, hr, toB]
theorem pop_ok {r : List Nat} {l : Nat} : RS.run C E0 (tSeq (tAsg (tOp (rI0 fun i j => .int (i + j)) (tBM0 K "list" rPop (tVar 4)) (tC (.int 1))) (gName 5)) tNext) (hDel x0 a0 X A er near (r ++ [l]) v s6 s7 s8) = .nx (hDel x0 a0 X A er near r (l + 1) s6 s7 s8) := by
  have e1 : (iL (r ++ [l])).getLast? = some (.int (l : Int)) := by rw [iL_app]; simp [iL]
  have e2 : (iL (r ++ [l])).dropLast = iL r := by rw [iL_app]; exact List.dropLast_concat
  simp only [hDel, run_seq, run_popadd, owAt, List.getElem?_cons_zero, List.getElem?_cons_succ, popR, e1, e2, List.set_cons_zero, List.set_cons_succ, seqR, run_next, Int.natCast_add]
  rfl
theorem turn_yield {f : PF} {r : List Nat} {l : Nat} (h : (r ++ [l]).length = x0) (hz : es.length < 100000) : RGn.run C E0 (hBody K C f) es (hDel x0 a0 X A er near (r ++ [l]) v s6 s7 s8) = .nx (es ++ [.tuple (iL (r ++ [l]))]) (hDel x0 a0 X A er near r (l + 1) s6 s7 s8) := by
  have e : decide ((r ++ [l]).length = x0) = true := decide_eq_true h
  have ey : runS (RE.run C E0 (tCB (rTupQ K) (tCons (tVar 4) tNil))) (hDel x0 a0 X A er near (r ++ [l]) v s6 s7 s8) = .ok (.tuple (iL (r ++ [l]))) := by
    have hs : shal (.tuple (iL (r ++ [l]))) = true := by
      show (iL (r ++ [l])).all flat1 = true
      unfold iL
      rw [List.all_map]
      exact List.all_eq_true.mpr fun _ _ => rfl
    simp only [hDel, runS, run_cb, run_var, run_acons, run_anil, List.getElem?_cons_zero, List.getElem?_cons_succ, bd_ok, bd_bad, frz, frzS, List.map_cons, List.map_nil, run_tupL, ofO, hs, if_true]
  have hemp : (r ++ [l]).isEmpty = false := by simp
  simp only [run_gthen, run_gif, run_gyield, run_gplain, run_g0, tLen_ok, e, gifR, ey, yieldR, hz, if_true, thenR, run_if, tOr_ok, Bool.true_or, ifR, run_seq]
  have hp := pop_ok (C := C) (K := K) (x0 := x0) (a0 := a0) (X := X) (A := A) (er := er) (near := near) (r := r) (l := l) (v := v) (s6 := s6) (s7 := s7) (s8 := s8)
  simp only [run_seq] at hp
  simp only [tEmp_ok, hemp, ifR, run_next, seqR] at hp ⊢
  rw [hp]
  rfl
theorem turn_pop {f : PF} {r : List Nat} {l : Nat} (h : (r ++ [l]).length ≠ x0) : RGn.run C E0 (hBody K C f) es (hDel x0 a0 X A er near (r ++ [l]) a0 s6 s7 s8) = .nx es (hDel x0 a0 X A er near r (l + 1) s6 s7 s8) := by
  have e : decide ((r ++ [l]).length = x0) = false := decide_eq_false h
  have e2 : decide (a0 = a0) = true := decide_eq_true rfl
  have hemp : (r ++ [l]).isEmpty = false := by simp
  simp only [run_gthen, run_gif, run_gyield, run_gplain, run_g0, tLen_ok, e, gifR, thenR, run_if, tOr_ok, e2, Bool.false_or, ifR, run_seq]
  have hp := pop_ok (C := C) (K := K) (x0 := x0) (a0 := a0) (X := X) (A := A) (er := er) (near := near) (r := r) (l := l) (v := a0) (s6 := s6) (s7 := s7) (s8 := s8)
  simp only [run_seq] at hp
  simp only [tEmp_ok, hemp, ifR, run_next, seqR] at hp ⊢
  rw [hp]
  rfl
theorem turn_end {f : PF} (h : 0 ≠ x0) : RGn.run C E0 (hBody K C f) es (hDel x0 a0 X A er near [] a0 s6 s7 s8) = .rt es := by
  have e : decide (([] : List Nat).length = x0) = false := decide_eq_false h
  have e2 : decide (a0 = a0) = true := decide_eq_true rfl
  simp only [run_gthen, run_gif, run_gyield, run_gplain, run_g0, tLen_ok, e, gifR, thenR, run_if, tOr_ok, e2, decide_true, Bool.false_or, ifR, run_seq, tEmp_ok, List.isEmpty_nil, run_retN, seqR, plainR]
theorem turn_end0 {f : PF} (hz : es.length < 100000) : RGn.run C E0 (hBody K C f) es (hDel 0 a0 X A er near [] v s6 s7 s8) = .rt (es ++ [.tuple []]) := by
  have e : decide (([] : List Nat).length = 0) = true := rfl
  have ey : runS (RE.run C E0 (tCB (rTupQ K) (tCons (tVar 4) tNil))) (hDel 0 a0 X A er near [] v s6 s7 s8) = .ok (.tuple []) := by
    simp only [hDel, runS, run_cb, run_var, run_acons, run_anil, List.getElem?_cons_zero, List.getElem?_cons_succ, bd_ok, bd_bad, frz, frzS, List.map_cons, List.map_nil, run_tupL, ofO, iL, shal, List.all_nil, if_true]
  simp only [run_gthen, run_gif, run_gyield, run_gplain, run_g0, tLen_ok, e, gifR, thenR, ey, yieldR, hz, if_true, run_if, tOr_ok, Bool.true_or, ifR, run_seq, tEmp_ok, List.isEmpty_nil, run_retN, seqR, plainR]
theorem turn_fit {f : PF} (h : row.length ≠ x0) (hv : v ≠ a0) (hz : row.length < 1000) (hf : f [.list (lL er), .list (lL near), .list (iL row), .int (v : Int)] = .ok (.bool (fitB (er[row.length]?.getD []) (near[v]?.getD []) row v))) (hb : fitB (er[row.length]?.getD []) (near[v]?.getD []) row v = true) :
    RGn.run C E0 (hBody K C f) es (hDel x0 a0 X A er near row v s6 s7 s8) = .nx es (hDel x0 a0 X A er near (row ++ [v]) 0 s6 s7 s8) := by
  have e : decide (row.length = x0) = false := decide_eq_false h
  have e2 : decide (v = a0) = false := decide_eq_false hv
  have ez : (iL row).length < 100000 := by rw [iL_len]; omega
  simp only [run_gthen, run_gif, run_gyield, run_gplain, run_g0, tLen_ok, e, gifR, thenR, run_if, tOr_ok, e2, Bool.or_false, ifR, run_seq, tFit_ok hf, hb]
  simp only [hDel, run_append, runS, run_var, owAt, List.getElem?_cons_zero, List.getElem?_cons_succ, appR, ez, if_true, List.set_cons_zero, List.set_cons_succ, seqR, run_asg, runW, run_c, ofO, vD, asgR, run_next, plainR, iL_app]
  rfl
theorem turn_next {f : PF} (h : row.length ≠ x0) (hv : v ≠ a0) (hf : f [.list (lL er), .list (lL near), .list (iL row), .int (v : Int)] = .ok (.bool (fitB (er[row.length]?.getD []) (near[v]?.getD []) row v))) (hb : fitB (er[row.length]?.getD []) (near[v]?.getD []) row v = false) :
    RGn.run C E0 (hBody K C f) es (hDel x0 a0 X A er near row v s6 s7 s8) = .nx es (hDel x0 a0 X A er near row (v + 1) s6 s7 s8) := by
  have e : decide (row.length = x0) = false := decide_eq_false h
  have e2 : decide (v = a0) = false := decide_eq_false hv
  simp only [run_gthen, run_gif, run_gyield, run_gplain, run_g0, tLen_ok, e, gifR, thenR, run_if, tOr_ok, e2, Bool.or_false, ifR, run_seq, tFit_ok hf, hb]
  simp only [hDel, run_var, List.getElem?_cons_zero, List.getElem?_cons_succ, List.set_cons_zero, List.set_cons_succ, seqR, run_asg, run_op, bd_ok, run_I0, runW, run_c, ofO, vD, asgR, run_next, plainR, Int.natCast_add]
  rfl
/-! ### homs: all turns -/
def fitM (er near : List (List Nat)) (row : List Nat) (v : Nat) : Bool := fitB (er[row.length]?.getD []) (near[v]?.getD []) row v
/-- all ways to go on from row, k nodes to come -/
def rest (er near : List (List Nat)) (a0 : Nat) : Nat → List Nat → List (List Nat)
  | 0, row => [row]
  | k + 1, row => (List.range a0).flatMap fun v => if fitM er near row v then rest er near a0 k (row ++ [v]) else []
/-- .. with n values to be tried, the next one v -/
def tail1 (er near : List (List Nat)) (a0 k : Nat) (row : List Nat) : Nat → Nat → List (List Nat)
  | 0, _ => []
  | n + 1, v => (if fitM er near row v then rest er near a0 k (row ++ [v]) else []) ++ tail1 er near a0 k row n (v + 1)
theorem tail1_eq {k : Nat} : ∀ (n v : Nat), tail1 er near a0 k row n v = (List.range' v n).flatMap fun v => if fitM er near row v then rest er near a0 k (row ++ [v]) else []
  | 0, v => rfl
  | n + 1, v => by rw [tail1, tail1_eq n (v + 1), List.range'_succ, List.flatMap_cons]
theorem rest_tail {k : Nat} : rest er near a0 (k + 1) row = tail1 er near a0 k row a0 0 := by rw [tail1_eq, rest, List.range_eq_range']
def tL (rows : List (List Nat)) : List PyData := rows.map fun r => .tuple (iL r)
theorem tL_app (l m : List (List Nat)) : tL (l ++ m) = tL l ++ tL m := by unfold tL; rw [List.map_append]
theorem tL_len (l : List (List Nat)) : (tL l).length = l.length := by unfold tL; rw [List.length_map]
/-- a bound of the turns -/
def turns (a0 : Nat) : Nat → Nat
  | 0 => 0
  | k + 1 => a0 * (turns a0 k + 2)
abbrev hT : TT := tB (tC (.bl true))
theorem hT_ok {δ : List Sl} : runT (RT.run C E0 hT) δ = .ok true := by
  simp only [runT, run_tb, run_c, ofO, vD, bd_ok, toB]
def Fok (f : PF) (er near : List (List Nat)) (x0 a0 : Nat) : Prop := ∀ (row : List Nat) (v : Nat), row.length < x0 → v < a0 → f [.list (lL er), .list (lL near), .list (iL row), .int (v : Int)] = .ok (.bool (fitM er near row v))
theorem wh_nx {b : List PyData → List Sl → Gf} {m : Nat} {es es' : List PyData} {δ δ' : List Sl} (h : b es δ = .nx es' δ') : whR (RT.run C E0 hT) b (m + 1) es δ = whR (RT.run C E0 hT) b m es' δ' := by
  rw [whR, hT_ok]
  simp only [h]
theorem wh_rt {b : List PyData → List Sl → Gf} {m : Nat} {es es' : List PyData} {δ : List Sl} (h : b es δ = .rt es') : whR (RT.run C E0 hT) b (m + 1) es δ = .rt es' := by
  rw [whR, hT_ok]
  simp only [h]
theorem homs_run {f : PF} (hf : Fok f er near x0 a0) (hx : x0 < 900) : ∀ (k n : Nat) (row : List Nat) (v : Nat) (es : List PyData), row.length + (k + 1) = x0 → v + n = a0 → es.length + (tail1 er near a0 k row n v).length < 100000 →
    ∃ s, s ≤ n * (turns a0 k + 2) ∧ ∀ m, whR (RT.run C E0 hT) (RGn.run C E0 (hBody K C f)) (m + s) es (hDel x0 a0 X A er near row v s6 s7 s8) = whR (RT.run C E0 hT) (RGn.run C E0 (hBody K C f)) m (es ++ tL (tail1 er near a0 k row n v)) (hDel x0 a0 X A er near row a0 s6 s7 s8)
  | k, 0, row, v, es, hl, hv, hz => by
    rw [show v = a0 by omega]
    refine ⟨0, Nat.zero_le _, fun m => ?_⟩
    show _ = whR _ _ m (es ++ []) _
    rw [List.append_nil]
    rfl
  | k, n + 1, row, v, es, hl, hv, hz => by
    have h1 : row.length ≠ x0 := by omega
    have h2 : v ≠ a0 := by omega
    have h3 := hf row v (by omega) (by omega)
    have h4 : row.length < 1000 := by omega
    cases hb : fitM er near row v with
    | false =>
      have ht : tail1 er near a0 k row (n + 1) v = tail1 er near a0 k row n (v + 1) := by rw [tail1, hb]; rfl
      rw [ht] at hz ⊢
      obtain ⟨s, hs, h5⟩ := homs_run hf hx k n row (v + 1) es hl (by omega) hz
      refine ⟨s + 1, ?_, fun m => ?_⟩
      · rw [Nat.succ_mul]; omega
      · rw [show m + (s + 1) = (m + s) + 1 by omega, wh_nx (turn_next h1 h2 h3 hb), h5 m]
    | true =>
      have ht : tail1 er near a0 k row (n + 1) v = rest er near a0 k (row ++ [v]) ++ tail1 er near a0 k row n (v + 1) := by rw [tail1, hb]; rfl
      rw [ht, List.length_append] at hz
      rw [ht, tL_app, ← List.append_assoc]
      obtain ⟨s, hs, h5⟩ := homs_run hf hx k n row (v + 1) (es ++ tL (rest er near a0 k (row ++ [v]))) hl (by omega) (by rw [List.length_append, tL_len]; omega)
      have hl1 : (row ++ [v]).length = row.length + 1 := by simp
      have inner : ∃ s1, s1 ≤ turns a0 k + 1 ∧ ∀ m, whR (RT.run C E0 hT) (RGn.run C E0 (hBody K C f)) (m + s1) es (hDel x0 a0 X A er near (row ++ [v]) 0 s6 s7 s8) = whR (RT.run C E0 hT) (RGn.run C E0 (hBody K C f)) m (es ++ tL (rest er near a0 k (row ++ [v]))) (hDel x0 a0 X A er near row (v + 1) s6 s7 s8) := by
        cases k with
        | zero => exact ⟨1, by omega, fun m => wh_nx (turn_yield (by omega) (by omega))⟩
        | succ k =>
          rw [rest_tail] at hz ⊢
          obtain ⟨s1, hs1, h6⟩ := homs_run hf hx k a0 (row ++ [v]) 0 es (by omega) (by omega) (by omega)
          refine ⟨s1 + 1, ?_, fun m => ?_⟩
          · rw [turns]; omega
          · rw [show m + (s1 + 1) = (m + 1) + s1 by omega, h6 (m + 1), wh_nx (turn_pop (by omega))]
      obtain ⟨s1, hs1, h6⟩ := inner
      refine ⟨s + s1 + 1, ?_, fun m => ?_⟩
      · rw [Nat.succ_mul]; omega
      · rw [show m + (s + s1 + 1) = ((m + s) + s1) + 1 by omega, wh_nx (turn_fit h1 h2 h4 h3 hb), h6 (m + s), h5 m]
termination_by k n => (k, n)
theorem homs_all {f : PF} (hf : Fok f er near x0 a0) (hx : x0 < 900) (hz : (rest er near a0 x0 []).length < 90000) (ht : turns a0 x0 < 900000) :
    whR (RT.run C E0 hT) (RGn.run C E0 (hBody K C f)) fuelW [] (hDel x0 a0 X A er near [] 0 s6 s7 s8) = .rt (tL (rest er near a0 x0 [])) := by
  cases x0 with
  | zero => exact wh_rt (turn_end0 (by decide))
  | succ k =>
    rw [rest_tail] at hz ⊢
    obtain ⟨s, hs, h⟩ := homs_run (C := C) (K := K) (X := X) (A := A) (s6 := s6) (s7 := s7) (s8 := s8) hf hx k a0 [] 0 [] (by simp) (by omega) (by simp only [List.length_nil]; omega)
    have hs2 : s < 900000 := Nat.lt_of_le_of_lt hs (by rw [turns] at ht; exact ht)
    rw [show fuelW = (fuelW - s - 1 + 1) + s by unfold fuelW; omega, h, List.nil_append]
    exact wh_rt (turn_end (by omega))
end
end DL
end
section
set_option Elab.async false
set_option linter.all false
set_option warn.classDefReducibility false
set_option synthInstance.maxSize 1000000
set_option synthInstance.maxHeartbeats 4000000
set_option maxRecDepth 100000
set_option maxHeartbeats 4000000
/-! MH2: count_homs by its mirror. -/
namespace DL
open PySem L2 GX
section
variable {C : Addr} {K : PySem.W.Frag}
abbrev eEar (K : PySem.W.Frag) (C : Addr) (fn : PF) : TE := tLc (iEnum K (tCons (tCall (spF C 1 fn) [] E0 (tCons (tVar 0) tNil)) tNil)) (gTup K 2 (gCons (gName 7) (gCons (gName 8) gNil))) tYes (tLc (iList K (tVar 8)) (gName 6) (tTest (tOp (rI0 fun i j => .bl (decide (i ≤ j))) (tVar 6) (tVar 7))) (tVar 6) [6]) [7, 8]
def inEar (K : PySem.W.Frag) (C : Addr) (fn : PF) : RE C E0 (eEar K C fn) := inferInstance
theorem run_gwhile {tt : TT} {tg : TGn} [c : RT C E0 tt] [b : RGn C E0 tg] : (rgWhile (c := c) (b := b)).run = fun es δ => whR c.run b.run fuelW es δ := rfl
variable {x0 a0 : Nat} {X A dm : PyData} {er near : List (List Nat)} {fm fn ff : PF}
theorem ghoms_ok (hm : fm [.int (x0 : Int), .int (a0 : Int), .int 4096] = .ok dm)
    (hE : (inEar K C fn).run [.pu (.tuple [.int (x0 : Int), X]), .pu (.tuple [.int (a0 : Int), A]), .any, .any, .any, .any, .any, .any, .any] = .ok (.list (lL er)))
    (hN : fn [.tuple [.int (a0 : Int), A]] = .ok (.list (lL near))) (hf : Fok ff er near x0 a0) (hx : x0 < 900) (hz : (rest er near a0 x0 []).length < 90000) (ht : turns a0 x0 < 900000) :
    Fhoms K C fm fn ff [.tuple [.int (x0 : Int), X], .tuple [.int (a0 : Int), A]] = .ok (tL (rest er near a0 x0 [])) := by
  have un : (inhoms K C fm fn ff).run = RGn.run C E0 (rdhoms K C fm fn ff) := rfl
  have hE' : RE.run C E0 (eEar K C fn) [.pu (.tuple [.int (x0 : Int), X]), .pu (.tuple [.int (a0 : Int), A]), .any, .any, .any, .any, .any, .any, .any] = .ok (.list (lL er)) := hE
  have hr : runD 3 fm [] [.int (x0 : Int), .int (a0 : Int), .int 4096] = .ok dm := by simp [runD, vDs, runF, hm]
  have hn : runD 1 fn [] [.tuple [.int (a0 : Int), A]] = .ok (.list (lL near)) := by simp [runD, vDs, runF, hN]
  have e0 : ixD [PyData.int (x0 : Int), X] 0 = some (.int (x0 : Int)) := rfl
  have e1 : ixD [PyData.int (a0 : Int), A] 0 = some (.int (a0 : Int)) := rfl
  have hw : RGn.run C E0 (tGWhile hT (hBody K C ff)) [] (hDel x0 a0 X A er near [] 0 .any .any .any) = .rt (tL (rest er near a0 x0 [])) := by
    rw [run_gwhile]
    exact homs_all hf hx hz ht
  have s1 : RGn.run C E0 (tPlain (tDrop (tCall (spF C 3 fm) [] E0 (tCons (tOp (rIxT K) (tVar 0) (tC (.int 0))) (tCons (tOp (rIxT K) (tVar 1) (tC (.int 0))) (tCons (tC (.int 4096)) tNil)))))) [] [.pu (.tuple [.int (x0 : Int), X]), .pu (.tuple [.int (a0 : Int), A]), .any, .any, .any, .any, .any, .any, .any] = .nx [] [.pu (.tuple [.int (x0 : Int), X]), .pu (.tuple [.int (a0 : Int), A]), .any, .any, .any, .any, .any, .any, .any] := by
    simp only [run_gplain, run_drop, runS, run_call0, run_acons, run_anil, run_op, run_var, run_c, List.getElem?_cons_zero, List.getElem?_cons_succ, bd_ok, run_ixT, e0, e1, ofO, vD, hr, okR, dropR, plainR]
  have s2 : RGn.run C E0 (tPlain (tAsg (eEar K C fn) (gName 2))) [] [.pu (.tuple [.int (x0 : Int), X]), .pu (.tuple [.int (a0 : Int), A]), .any, .any, .any, .any, .any, .any, .any] = .nx [] [.pu (.tuple [.int (x0 : Int), X]), .pu (.tuple [.int (a0 : Int), A]), .pu (.list (lL er)), .any, .any, .any, .any, .any, .any] := by
    simp only [run_gplain, run_asg, runW, hE', asgR, List.set_cons_zero, List.set_cons_succ, plainR]
  have s3 : RGn.run C E0 (tPlain (tAsg (tCall (spF C 1 fn) [] E0 (tCons (tVar 1) tNil)) (gName 3))) [] [.pu (.tuple [.int (x0 : Int), X]), .pu (.tuple [.int (a0 : Int), A]), .pu (.list (lL er)), .any, .any, .any, .any, .any, .any] = .nx [] [.pu (.tuple [.int (x0 : Int), X]), .pu (.tuple [.int (a0 : Int), A]), .pu (.list (lL er)), .pu (.list (lL near)), .any, .any, .any, .any, .any] := by
    simp only [run_gplain, run_asg, runW, run_call0, run_acons, run_anil, run_var, List.getElem?_cons_zero, List.getElem?_cons_succ, bd_ok, hn, okR, asgR, List.set_cons_zero, List.set_cons_succ, plainR]
  unfold Fhoms
  rw [un]
  show outG (thenR (RGn.run C E0 _ _ _) _) = _
  rw [show (startA 9 [.tuple [.int (x0 : Int), X], .tuple [.int (a0 : Int), A]]) = [.pu (.tuple [.int (x0 : Int), X]), .pu (.tuple [.int (a0 : Int), A]), .any, .any, .any, .any, .any, .any, .any] from rfl, s1]
  show outG (thenR (RGn.run C E0 _ _ _) _) = _
  rw [s2]
  show outG (thenR (RGn.run C E0 _ _ _) _) = _
  rw [s3]
  show outG (thenR (RGn.run C E0 (tGWhile hT (hBody K C ff)) [] (hDel x0 a0 X A er near [] 0 .any .any .any)) _) = _
  rw [hw]
  rfl
theorem chom_ok {g : PG'} {x a : PyData} {l : List PyData} (h : g [x, a] = .ok l) : Fcount_homs K C g [x, a] = .ok (.int (l.length : Int)) := by
  have un : (incount_homs K C g).run = RS.run C E0 (rdcount_homs K C g) := rfl
  have hr : runGn 2 g [] [x, a] = .ok (.list l) := by simp [runGn, vDs, h, lstG]
  unfold Fcount_homs
  rw [un]
  simp only [run_seq, run_ret, runW, run_cb, run_acons, run_anil, run_listG, run_var, startA, List.map_cons, List.map_nil, List.cons_append, List.nil_append, List.getElem?_cons_zero, List.getElem?_cons_succ, bd_ok, hr, run_len, ofO, retR, seqR, outF0]
end
end DL
end
section
set_option Elab.async false
set_option linter.all false
set_option warn.classDefReducibility false
set_option synthInstance.maxSize 1000000
set_option synthInstance.maxHeartbeats 4000000
set_option maxRecDepth 100000
set_option maxHeartbeats 4000000
/-! ML: _law_count by its mirror. -/
namespace DL
open PySem L2 GX
def bL (l : List Bool) : List PyData := l.map .bool
def bbL (l : List (List Bool)) : List PyData := l.map fun r => .list (bL r)
theorem dVs_bL : ∀ l : List Bool, dVs (bL l) = some (l.map V.bl)
  | [] => rfl
  | n :: l => by
    show (match dV (.bool n), dVs (bL l) with | some v, some vs => some (v :: vs) | _, _ => none) = _
    rw [dVs_bL l]
    rfl
theorem inD_bool {neg b : Bool} {l : List Bool} : inD neg (.bool b) (bL l) = some (.bool (if neg then !(decide (b ∈ l)) else decide (b ∈ l))) := by
  have e : inV (.bl b) (l.map V.bl) = decide (b ∈ l) := by
    unfold inV
    rw [List.any_map, Bool.eq_iff_iff]
    simp [eqV, List.any_eq_true]
  unfold inD
  rw [dVs_bL]
  show some (PyData.bool (if neg then !inV _ _ else inV _ _)) = _
  rw [e]
def nb (near : List (List Bool)) (i j : Nat) : Bool := match near[i]? with
  | some r => r[j]?.getD false
  | none => false
structure Sq (near : List (List Bool)) (m : Nat) : Prop where
  len : near.length = m
  row : ∀ r ∈ near, r.length = m
theorem ix_near {near : List (List Bool)} {m i j : Nat} (s : Sq near m) (hi : i < m) (hj : j < m) : ∃ r, ixD (bbL near) (i : Int) = some (.list (bL r)) ∧ ixD (bL r) (j : Int) = some (.bool (nb near i j)) := by
  have h1 : i < near.length := by rw [s.len]; exact hi
  have h2 : near[i].length = m := s.row _ (List.getElem_mem h1)
  refine ⟨near[i], ?_, ?_⟩
  · show (bbL near)[i]? = _
    unfold bbL
    rw [List.getElem?_map, List.getElem?_eq_getElem h1]; rfl
  · show (bL near[i])[j]? = _
    unfold bL nb
    rw [List.getElem?_map, List.getElem?_eq_getElem (by omega), List.getElem?_eq_getElem h1]
    simp only [Option.map_some, List.getElem?_eq_getElem (show j < near[i].length by omega), Option.getD_some]
def okC (near : List (List Bool)) (lw given : List Nat) (v : Nat) : Bool := lw.all fun u => nb near (given[u]?.getD 0) v
section
variable {C : Addr} {K : PySem.W.Frag}
abbrev cT (K : PySem.W.Frag) : TE := tLc (iList K (tVar 4)) (gName 10) tYes (tOp (rIxL K) (tOp (rIxL K) (tVar 1) (tOp (rIxL K) (tVar 9) (tVar 10))) (tVar 7)) [10]
abbrev cBody (K : PySem.W.Frag) : TS := tSeq (tAsg (tOp rCat (tVar 6) (tLst (tCons (tVar 7) tNil))) (gName 9)) (tSeq (tIfS (tTest (tOp (rIn K true) (tC (.bl false)) (cT K))) (tSeq (tDrop (tBM K "list" rAppend (tVar 5) (tCons (tVar 9) tNil))) tNext) tNext) tNext)
variable {s0 s2 s3 s6 s8 s9 s10 : Sl} {near : List (List Bool)} {m v : Nat} {lw row given : List Nat} {acc : List PyData}
theorem cT_run (sq : Sq near m) (hv : v < m) (hg : ∀ g ∈ given, g < m) : ∀ lw : List Nat, (∀ u ∈ lw, u < given.length) →
    lcRun ((rgwName 10 [10]).run [s0, .pu (.list (bbL near)), s2, s3, .pu (.list (iL lw)), .ow acc, s6, .pu (.int (v : Int)), s8, .pu (.list (iL given)), .any]) (rtYes (C := C) (EX := E0)).run
      (RE.run C E0 (tOp (rIxL K) (tOp (rIxL K) (tVar 1) (tOp (rIxL K) (tVar 9) (tVar 10))) (tVar 7))) (iL lw) = some (bL (lw.map fun u => nb near (given[u]?.getD 0) v)) := by
  suffices h : ∀ (l0 lw : List Nat), (∀ u ∈ lw, u < given.length) →
    lcRun ((rgwName 10 [10]).run [s0, .pu (.list (bbL near)), s2, s3, .pu (.list (iL l0)), .ow acc, s6, .pu (.int (v : Int)), s8, .pu (.list (iL given)), .any]) (rtYes (C := C) (EX := E0)).run
      (RE.run C E0 (tOp (rIxL K) (tOp (rIxL K) (tVar 1) (tOp (rIxL K) (tVar 9) (tVar 10))) (tVar 7))) (iL lw) = some (bL (lw.map fun u => nb near (given[u]?.getD 0) v)) from fun lw h2 => h lw lw h2
  intro l0 lw
  induction lw with
  | nil => intro _; rfl
  | cons u lw ih =>
    intro h
    have hu := h u List.mem_cons_self
    have hgu : given[u] < m := hg _ (List.getElem_mem hu)
    obtain ⟨r, e1, e2⟩ := ix_near sq hgu hv
    have eg : (given[u]?.getD 0) = given[u] := by rw [List.getElem?_eq_getElem hu]; rfl
    have ih' := ih fun x hx => h x (List.mem_cons_of_mem _ hx)
    show lcRun _ _ _ (.int (u : Int) :: iL lw) = _
    rw [lcRun]
    simp only [run_gwname, List.mem_singleton, if_true, List.set_cons_zero, List.set_cons_succ, run_yes, run_op, run_var, List.getElem?_cons_zero, List.getElem?_cons_succ, bd_ok, run_ixL, ixD_iL hu, e1, e2, ofO] at ih' ⊢
    rw [ih', List.map_cons, eg]
    rfl
theorem cBody_ok (sq : Sq near m) (hv : v < m) (hr : ∀ g ∈ row, g < m) (hl : ∀ u ∈ lw, u ≤ row.length) (hz : acc.length < 100000) (hrl : row.length < 1000) (hll : lw.length < 1000) :
    ∃ s9' s10', RS.run C E0 (cBody K) [s0, .pu (.list (bbL near)), s2, s3, .pu (.list (iL lw)), .ow acc, .pu (.list (iL row)), .pu (.int (v : Int)), s8, s9, s10] =
      .nx [s0, .pu (.list (bbL near)), s2, s3, .pu (.list (iL lw)), .ow (acc ++ if okC near lw (row ++ [v]) v then [.list (iL (row ++ [v]))] else []), .pu (.list (iL row)), .pu (.int (v : Int)), s8, s9', s10'] := by
  have e1 : iL row ++ [.int (v : Int)] = iL (row ++ [v]) := by rw [iL_app]; rfl
  have ez : (iL row).length + [PyData.int (v : Int)].length ≤ 100000 := by rw [iL_len]; simp; omega
  have ez1 : [PyData.int (v : Int)].length ≤ 100000 := by simp
  have ec : (RE.run C E0 (tOp rCat (tVar 6) (tLst (tCons (tVar 7) tNil)))) [s0, .pu (.list (bbL near)), s2, s3, .pu (.list (iL lw)), .ow acc, .pu (.list (iL row)), .pu (.int (v : Int)), s8, s9, s10] = .ok (.list (iL (row ++ [v]))) := by
    simp only [run_op, run_var, run_lst, run_acons, run_anil, List.getElem?_cons_zero, List.getElem?_cons_succ, bd_ok]
    rw [if_pos ez1]
    show ofO (if (iL row).length + [PyData.int (v : Int)].length ≤ 100000 then some (PyData.list (iL row ++ [.int (v : Int)])) else none) = _
    rw [if_pos ez, e1]
    rfl
  have hg : ∀ g ∈ row ++ [v], g < m := fun g hg => by
    rcases List.mem_append.mp hg with z | z
    · exact hr g z
    · rw [List.mem_singleton.mp z]; exact hv
  have hu : ∀ u ∈ lw, u < (row ++ [v]).length := fun u hu => by
    have := hl u hu
    simp
    omega
  have et : RE.run C E0 (cT K) [s0, .pu (.list (bbL near)), s2, s3, .pu (.list (iL lw)), .ow acc, .pu (.list (iL row)), .pu (.int (v : Int)), s8, .pu (.list (iL (row ++ [v]))), s10] = .ok (.list (bL (lw.map fun u => nb near ((row ++ [v])[u]?.getD 0) v))) := by
    rw [run_lc]
    have hw : wipeA [s0, .pu (.list (bbL near)), s2, s3, .pu (.list (iL lw)), .ow acc, .pu (.list (iL row)), .pu (.int (v : Int)), s8, .pu (.list (iL (row ++ [v]))), s10] [10] = [s0, .pu (.list (bbL near)), s2, s3, .pu (.list (iL lw)), .ow acc, .pu (.list (iL row)), .pu (.int (v : Int)), s8, .pu (.list (iL (row ++ [v]))), .any] := rfl
    have hi : (RI.run C E0 (iList K (tVar 4))) [s0, .pu (.list (bbL near)), s2, s3, .pu (.list (iL lw)), .ow acc, .pu (.list (iL row)), .pu (.int (v : Int)), s8, .pu (.list (iL (row ++ [v]))), s10] = some (iL lw) := rfl
    dsimp only
    rw [hw, hi, lcAll, if_pos (by rw [iL_len]; omega)]
    rw [cT_run (C := C) (K := K) (acc := acc) sq hv hg lw hu]
  have eo : decide (false ∈ lw.map fun u => nb near ((row ++ [v])[u]?.getD 0) v) = !okC near lw (row ++ [v]) v := by
    unfold okC
    rw [Bool.eq_iff_iff, decide_eq_true_eq, Bool.not_eq_true', List.all_eq_false]
    simp
  have etest : runT (RT.run C E0 (tTest (tOp (rIn K true) (tC (.bl false)) (cT K)))) [s0, .pu (.list (bbL near)), s2, s3, .pu (.list (iL lw)), .ow acc, .pu (.list (iL row)), .pu (.int (v : Int)), s8, .pu (.list (iL (row ++ [v]))), s10] = .ok (okC near lw (row ++ [v]) v) := by
    simp only [runT, run_test, run_op, run_c, ofO, vD, bd_ok, et, run_in, inD_bool, if_true, eo, Bool.not_not, toB]
  refine ⟨.pu (.list (iL (row ++ [v]))), s10, ?_⟩
  cases ho : okC near lw (row ++ [v]) v with
  | true =>
    rw [ho] at etest
    simp only [run_seq, run_asg, runW, ec, asgR, seqR, List.set_cons_zero, List.set_cons_succ, run_if, etest, ifR, run_append, runS, run_var, owAt, List.getElem?_cons_zero, List.getElem?_cons_succ, appR, hz, if_true, run_next]
  | false =>
    rw [ho] at etest
    simp only [run_seq, run_asg, runW, ec, asgR, seqR, List.set_cons_zero, List.set_cons_succ, run_if, etest, ifR, run_next, if_false, Bool.false_eq_true, List.append_nil]
/-! ### the walks -/
def stepV (near : List (List Bool)) (lw row : List Nat) : Nat → Nat → List (List Nat)
  | 0, _ => []
  | n + 1, v => (if okC near lw (row ++ [v]) v then [row ++ [v]] else []) ++ stepV near lw row n (v + 1)
theorem stepV_len {near : List (List Bool)} {lw row : List Nat} : ∀ n v : Nat, (stepV near lw row n v).length ≤ n
  | 0, _ => Nat.le_refl _
  | n + 1, v => by
    rw [stepV, List.length_append]
    have := stepV_len (near := near) (lw := lw) (row := row) n (v + 1)
    split <;> simp <;> omega
theorem lL_app (l m : List (List Nat)) : lL (l ++ m) = lL l ++ lL m := by unfold lL; rw [List.map_append]
theorem lL_len (l : List (List Nat)) : (lL l).length = l.length := by unfold lL; rw [List.length_map]
theorem walkV (sq : Sq near m) (hr : ∀ g ∈ row, g < m) (hl : ∀ u ∈ lw, u ≤ row.length) (hrl : row.length < 1000) (hll : lw.length < 1000) : ∀ (n v : Nat) (acc : List (List Nat)) (s7 s9 s10 : Sl), v + n = m → acc.length + n < 100000 →
    ∃ s7' s9' s10', forR (rgName 7).run (RS.run C E0 (cBody K)) ((List.range' v n).map fun (i : Nat) => .int (i : Int)) [s0, .pu (.list (bbL near)), s2, s3, .pu (.list (iL lw)), .ow (lL acc), .pu (.list (iL row)), s7, s8, s9, s10] =
      .nx [s0, .pu (.list (bbL near)), s2, s3, .pu (.list (iL lw)), .ow (lL (acc ++ stepV near lw row n v)), .pu (.list (iL row)), s7', s8, s9', s10']
  | 0, v, acc, s7, s9, s10, _, _ => ⟨s7, s9, s10, by rw [stepV, List.append_nil]; rfl⟩
  | n + 1, v, acc, s7, s9, s10, hv, hz => by
    obtain ⟨s9a, s10a, h1⟩ := cBody_ok (C := C) (K := K) (s0 := s0) (s2 := s2) (s3 := s3) (s8 := s8) (s9 := s9) (s10 := s10) (acc := lL acc) sq (show v < m by omega) hr hl (by rw [lL_len]; omega) hrl hll
    have e : lL acc ++ (if okC near lw (row ++ [v]) v then [.list (iL (row ++ [v]))] else []) = lL (acc ++ if okC near lw (row ++ [v]) v then [row ++ [v]] else []) := by
      rw [lL_app]
      split <;> rfl
    rw [e] at h1
    obtain ⟨s7', s9', s10', h2⟩ := walkV sq hr hl hrl hll n (v + 1) (acc ++ if okC near lw (row ++ [v]) v then [row ++ [v]] else []) (.pu (.int (v : Int))) s9a s10a (by omega) (by rw [List.length_append]; split <;> simp <;> omega)
    refine ⟨s7', s9', s10', ?_⟩
    rw [List.range'_succ, List.map_cons, forR]
    simp only [run_gname, List.append_assoc] at h2
    simp only [run_gname, List.set_cons_zero, List.set_cons_succ, h1, stepV]
    exact h2
abbrev cRow (K : PySem.W.Frag) : TS := tSeq (tFor (iRng1 (tCons (tCB (rLenQ K) (tCons (tVar 1) tNil)) tNil)) (gName 7) (cBody K)) tNext
theorem bbL_len (near : List (List Bool)) : (bbL near).length = near.length := by unfold bbL; rw [List.length_map]
def stepR (near : List (List Bool)) (m : Nat) (lw : List Nat) (R : List (List Nat)) : List (List Nat) := R.flatMap fun row => stepV near lw row m 0
theorem walkR {k : Nat} (sq : Sq near m) (hm : m ≤ 1000) (hl : ∀ u ∈ lw, u ≤ k) (hk : k < 1000) (hll : lw.length < 1000) : ∀ (R acc : List (List Nat)) (s6 s7 s9 s10 : Sl), (∀ row ∈ R, row.length = k ∧ ∀ g ∈ row, g < m) → acc.length + R.length * m < 90000 →
    ∃ s6' s7' s9' s10', forR (rgName 6).run (RS.run C E0 (cRow K)) (lL R) [s0, .pu (.list (bbL near)), s2, s3, .pu (.list (iL lw)), .ow (lL acc), s6, s7, s8, s9, s10] =
      .nx [s0, .pu (.list (bbL near)), s2, s3, .pu (.list (iL lw)), .ow (lL (acc ++ stepR near m lw R)), s6', s7', s8, s9', s10']
  | [], acc, s6, s7, s9, s10, _, _ => ⟨s6, s7, s9, s10, by rw [stepR, List.flatMap_nil, List.append_nil]; rfl⟩
  | row :: R, acc, s6, s7, s9, s10, h, hz => by
    obtain ⟨h1, h2⟩ := h row List.mem_cons_self
    rw [List.length_cons, Nat.succ_mul] at hz
    obtain ⟨s7a, s9a, s10a, w1⟩ := walkV (C := C) (K := K) (s0 := s0) (s2 := s2) (s3 := s3) (s8 := s8) sq h2 (fun u hu => by rw [h1]; exact hl u hu) (by omega) hll m 0 acc s7 s9 s10 (by omega) (by omega)
    have hsl := stepV_len (near := near) (lw := lw) (row := row) m 0
    obtain ⟨s6', s7', s9', s10', w2⟩ := walkR sq hm hl hk hll R (acc ++ stepV near lw row m 0) (.pu (.list (iL row))) s7a s9a s10a (fun r hr => h r (List.mem_cons_of_mem _ hr)) (by rw [List.length_append]; omega)
    refine ⟨s6', s7', s9', s10', ?_⟩
    have hfor : RS.run C E0 (tFor (iRng1 (tCons (tCB (rLenQ K) (tCons (tVar 1) tNil)) tNil)) (gName 7) (cBody K)) [s0, .pu (.list (bbL near)), s2, s3, .pu (.list (iL lw)), .ow (lL acc), .pu (.list (iL row)), s7, s8, s9, s10] = .nx [s0, .pu (.list (bbL near)), s2, s3, .pu (.list (iL lw)), .ow (lL (acc ++ stepV near lw row m 0)), .pu (.list (iL row)), s7a, s8, s9a, s10a] := by
      rw [run_for]
      have hi : (RI.run C E0 (iRng1 (tCons (tCB (rLenQ K) (tCons (tVar 1) tNil)) tNil))) [s0, .pu (.list (bbL near)), s2, s3, .pu (.list (iL lw)), .ow (lL acc), .pu (.list (iL row)), s7, s8, s9, s10] = some ((List.range' 0 m).map fun (i : Nat) => .int (i : Int)) := by
        rw [run_rng1]
        simp only [runA, run_acons, run_cb, run_anil, run_var, List.getElem?_cons_zero, List.getElem?_cons_succ, bd_ok, run_len, ofO, bbL_len, sq.len]
        show rng1 (some [.int (Int.ofNat m)]) = _
        unfold rng1
        simp only [show m ≤ 1000000 by omega, if_true]
        unfold rangeD
        rw [List.range_eq_range']
        simp only [Int.zero_add]
      dsimp only
      rw [hi, forA_some, w1]
    show forR _ _ (.list (iL row) :: lL R) _ = _
    rw [forR]
    simp only [run_gname, List.set_cons_zero, List.set_cons_succ, run_seq, hfor, seqR, run_next] at w2 ⊢
    rw [w2, stepR, stepR, List.flatMap_cons, List.append_assoc]
/-! ### the nodes -/
def eP (p : Nat × Nat) : PyData := .tuple [.int (p.1 : Int), .int (p.2 : Int)]
def lwr (es : List (Nat × Nat)) (k : Nat) : List Nat := (es.filter fun e => decide (e.2 = k)).map (·.1)
abbrev cLow (K : PySem.W.Frag) : TE := tLc (iTup K (tOp (rIxT K) (tVar 0) (tC (.int 1)))) (gName 8) (tTest (tOp rEq (tOp (rIxT K) (tVar 8) (tC (.int 1))) (tVar 3))) (tOp (rIxT K) (tVar 8) (tC (.int 0))) [8]
theorem cLow_run {s0 s1 s2 s4 s5 s6 s7 s9 s10 : Sl} {k : Nat} : ∀ es : List (Nat × Nat), lcRun ((rgwName 8 [8]).run [s0, s1, s2, .pu (.int (k : Int)), s4, s5, s6, s7, .any, s9, s10]) (RT.run C E0 (tTest (tOp rEq (tOp (rIxT K) (tVar 8) (tC (.int 1))) (tVar 3)))) (RE.run C E0 (tOp (rIxT K) (tVar 8) (tC (.int 0)))) (es.map eP) = some (iL (lwr es k))
  | [] => rfl
  | e :: es => by
    have ih := cLow_run (s0 := s0) (s1 := s1) (s2 := s2) (s4 := s4) (s5 := s5) (s6 := s6) (s7 := s7) (s9 := s9) (s10 := s10) (k := k) es
    have e0 : ixD [PyData.int (e.1 : Int), .int (e.2 : Int)] 0 = some (.int (e.1 : Int)) := rfl
    have e1 : ixD [PyData.int (e.1 : Int), .int (e.2 : Int)] 1 = some (.int (e.2 : Int)) := rfl
    rw [List.map_cons, lcRun]
    by_cases h : e.2 = k
    · have hd : decide (e.2 = k) = true := decide_eq_true h
      have hl : lwr (e :: es) k = e.1 :: lwr es k := by unfold lwr; rw [List.filter_cons, if_pos hd, List.map_cons]
      simp only [run_gwname, List.mem_singleton, if_true, List.set_cons_zero, List.set_cons_succ, run_test, run_op, run_var, run_c, List.getElem?_cons_zero, List.getElem?_cons_succ, bd_ok, run_ixT, ofO, vD, run_eq, eqS, Option.map_some, eq_dec, toB] at ih ⊢
      simp only [eP, run_ixT, e0, e1, eqS, Option.map_some, eq_dec, hd, toB, bd_ok, run_eq]
      rw [ih, hl]
      rfl
    · have hd : decide (e.2 = k) = false := decide_eq_false h
      have hl : lwr (e :: es) k = lwr es k := by unfold lwr; rw [List.filter_cons, if_neg (by rw [hd]; decide)]
      simp only [run_gwname, List.mem_singleton, if_true, List.set_cons_zero, List.set_cons_succ, run_test, run_op, run_var, run_c, List.getElem?_cons_zero, List.getElem?_cons_succ, bd_ok, run_ixT, ofO, vD, run_eq, eqS, Option.map_some, eq_dec, toB] at ih ⊢
      simp only [eP, run_ixT, e0, e1, eqS, Option.map_some, eq_dec, hd, toB, bd_ok, run_eq]
      rw [ih, hl]
abbrev cNode (K : PySem.W.Frag) : TS := tSeq (tAsg (cLow K) (gName 4)) (tSeq (tOwn tNil 5) (tSeq (tFor (iList K (tCB (rListQ K) (tCons (tVar 2) tNil))) (gName 6) (cRow K)) (tSeq (tAsg (tVar 5) (gName 2)) tNext)))
theorem run_lstQ {ds : List PyData} : (rbList (K := K)).run [.list ds] = some (.list ds) := rfl
theorem cNode_ok {x0 k : Nat} {es : List (Nat × Nat)} {R : List (List Nat)} {s4 s5 s6 s7 s8 s9 s10 : Sl} (sq : Sq near m) (hm : m ≤ 1000) (he : ∀ e ∈ es, e.1 ≤ e.2) (hes : es.length < 1000) (hk : k < 1000) (hR : ∀ row ∈ R, row.length = k ∧ ∀ g ∈ row, g < m) (hz : R.length * m < 80000) :
    ∃ s4' s5' s6' s7' s8' s9' s10', RS.run C E0 (cNode K) [.pu (.tuple [.int (x0 : Int), .tuple (es.map eP)]), .pu (.list (bbL near)), .pu (.list (lL R)), .pu (.int (k : Int)), s4, s5, s6, s7, s8, s9, s10] =
      .nx [.pu (.tuple [.int (x0 : Int), .tuple (es.map eP)]), .pu (.list (bbL near)), .pu (.list (lL (stepR near m (lwr es k) R))), .pu (.int (k : Int)), s4', s5', s6', s7', s8', s9', s10'] := by
  have e1 : RE.run C E0 (cLow K) [.pu (.tuple [.int (x0 : Int), .tuple (es.map eP)]), .pu (.list (bbL near)), .pu (.list (lL R)), .pu (.int (k : Int)), s4, s5, s6, s7, s8, s9, s10] = .ok (.list (iL (lwr es k))) := by
    rw [run_lc]
    have hw : wipeA [.pu (.tuple [.int (x0 : Int), .tuple (es.map eP)]), .pu (.list (bbL near)), .pu (.list (lL R)), .pu (.int (k : Int)), s4, s5, s6, s7, s8, s9, s10] [8] = [.pu (.tuple [.int (x0 : Int), .tuple (es.map eP)]), .pu (.list (bbL near)), .pu (.list (lL R)), .pu (.int (k : Int)), s4, s5, s6, s7, .any, s9, s10] := rfl
    have hi : (RI.run C E0 (iTup K (tOp (rIxT K) (tVar 0) (tC (.int 1))))) [.pu (.tuple [.int (x0 : Int), .tuple (es.map eP)]), .pu (.list (bbL near)), .pu (.list (lL R)), .pu (.int (k : Int)), s4, s5, s6, s7, s8, s9, s10] = some (es.map eP) := rfl
    dsimp only
    rw [hw, hi, lcAll, if_pos (by rw [List.length_map]; omega), cLow_run]
  have hlw : ∀ u ∈ lwr es k, u ≤ k := fun u hu => by
    unfold lwr at hu
    obtain ⟨e, h1, h2⟩ := List.mem_map.mp hu
    obtain ⟨h3, h4⟩ := List.mem_filter.mp h1
    have := he e h3
    have h5 : e.2 = k := of_decide_eq_true h4
    omega
  have hll : (lwr es k).length < 1000 := by
    unfold lwr
    rw [List.length_map]
    exact Nat.lt_of_le_of_lt (List.length_filter_le _ _) hes
  obtain ⟨s6', s7', s9', s10', w⟩ := walkR (C := C) (K := K) (s0 := .pu (.tuple [.int (x0 : Int), .tuple (es.map eP)])) (s2 := .pu (.list (lL R))) (s3 := .pu (.int (k : Int))) (s8 := s8) sq hm hlw hk hll R [] s6 s7 s9 s10 hR (by simp only [List.length_nil]; omega)
  rw [List.nil_append] at w
  have hfor : RS.run C E0 (tFor (iList K (tCB (rListQ K) (tCons (tVar 2) tNil))) (gName 6) (cRow K)) [.pu (.tuple [.int (x0 : Int), .tuple (es.map eP)]), .pu (.list (bbL near)), .pu (.list (lL R)), .pu (.int (k : Int)), .pu (.list (iL (lwr es k))), .ow [], s6, s7, s8, s9, s10] =
      .nx [.pu (.tuple [.int (x0 : Int), .tuple (es.map eP)]), .pu (.list (bbL near)), .pu (.list (lL R)), .pu (.int (k : Int)), .pu (.list (iL (lwr es k))), .ow (lL (stepR near m (lwr es k) R)), s6', s7', s8, s9', s10'] := by
    rw [run_for]
    have hi : (RI.run C E0 (iList K (tCB (rListQ K) (tCons (tVar 2) tNil)))) [.pu (.tuple [.int (x0 : Int), .tuple (es.map eP)]), .pu (.list (bbL near)), .pu (.list (lL R)), .pu (.int (k : Int)), .pu (.list (iL (lwr es k))), .ow [], s6, s7, s8, s9, s10] = some (lL R) := rfl
    dsimp only
    rw [hi, forA_some]
    exact w
  refine ⟨.pu (.list (iL (lwr es k))), .pu (.list (lL (stepR near m (lwr es k) R))), s6', s7', s8, s9', s10', ?_⟩
  rw [run_seq]
  dsimp only
  rw [show RS.run C E0 (tAsg (cLow K) (gName 4)) [.pu (.tuple [.int (x0 : Int), .tuple (es.map eP)]), .pu (.list (bbL near)), .pu (.list (lL R)), .pu (.int (k : Int)), s4, s5, s6, s7, s8, s9, s10] = .nx [.pu (.tuple [.int (x0 : Int), .tuple (es.map eP)]), .pu (.list (bbL near)), .pu (.list (lL R)), .pu (.int (k : Int)), .pu (.list (iL (lwr es k))), s5, s6, s7, s8, s9, s10] by
    simp only [run_asg, runW, e1, asgR, List.set_cons_zero, List.set_cons_succ]]
  rw [seqR_nx, run_seq]
  dsimp only
  rw [show RS.run C E0 (tOwn tNil 5) [.pu (.tuple [.int (x0 : Int), .tuple (es.map eP)]), .pu (.list (bbL near)), .pu (.list (lL R)), .pu (.int (k : Int)), .pu (.list (iL (lwr es k))), s5, s6, s7, s8, s9, s10] = .nx [.pu (.tuple [.int (x0 : Int), .tuple (es.map eP)]), .pu (.list (bbL near)), .pu (.list (lL R)), .pu (.int (k : Int)), .pu (.list (iL (lwr es k))), .ow [], s6, s7, s8, s9, s10] from rfl]
  rw [seqR_nx, run_seq]
  dsimp only
  rw [hfor, seqR_nx]
  simp only [run_seq, run_asg, run_var, runW, List.getElem?_cons_zero, List.getElem?_cons_succ, owIx, tryAt, frzAt, List.set_cons_zero, List.set_cons_succ, shal, flat1, if_false, Bool.false_eq_true, asgR, seqR, run_next]
/-- the rows after k nodes -/
def rowsM (near : List (List Bool)) (m : Nat) (es : List (Nat × Nat)) : Nat → List (List Nat)
  | 0 => [[]]
  | k + 1 => stepR near m (lwr es k) (rowsM near m es k)
theorem stepV_mem {lw row : List Nat} {r : List Nat} : ∀ n v : Nat, r ∈ stepV near lw row n v → ∃ u, v ≤ u ∧ u < v + n ∧ r = row ++ [u]
  | 0, v, h => by cases h
  | n + 1, v, h => by
    rw [stepV] at h
    rcases List.mem_append.mp h with z | z
    · split at z
      · exact ⟨v, Nat.le_refl _, by omega, List.mem_singleton.mp z⟩
      · cases z
    · obtain ⟨u, h1, h2, h3⟩ := stepV_mem n (v + 1) z
      exact ⟨u, by omega, by omega, h3⟩
theorem rowsM_ok {es : List (Nat × Nat)} : ∀ k : Nat, (∀ row ∈ rowsM near m es k, row.length = k ∧ ∀ g ∈ row, g < m) ∧ (rowsM near m es k).length ≤ m ^ k
  | 0 => ⟨fun row h => by rw [List.mem_singleton.mp h]; exact ⟨rfl, fun g hg => by cases hg⟩, by simp [rowsM]⟩
  | k + 1 => by
    obtain ⟨h1, h2⟩ := rowsM_ok (es := es) k
    refine ⟨fun row h => ?_, ?_⟩
    · rw [rowsM, stepR] at h
      obtain ⟨r, h3, h4⟩ := List.mem_flatMap.mp h
      obtain ⟨u, _, h5, rfl⟩ := stepV_mem m 0 h4
      obtain ⟨h6, h7⟩ := h1 r h3
      refine ⟨by rw [List.length_append, h6]; rfl, fun g hg => ?_⟩
      rcases List.mem_append.mp hg with z | z
      · exact h7 g z
      · rw [List.mem_singleton.mp z]; omega
    · rw [rowsM, stepR]
      have key : ∀ l : List (List Nat), (l.flatMap fun row => stepV near (lwr es k) row m 0).length ≤ l.length * m := by
        intro l
        induction l with
        | nil => simp
        | cons r l ih =>
          rw [List.flatMap_cons, List.length_append, List.length_cons, Nat.succ_mul]
          have := stepV_len (near := near) (lw := lwr es k) (row := r) m 0
          omega
      exact Nat.le_trans (key _) (by rw [Nat.pow_succ]; exact Nat.mul_le_mul_right m h2)
theorem walkN {x0 : Nat} {es : List (Nat × Nat)} (sq : Sq near m) (hm : m ≤ 1000) (he : ∀ e ∈ es, e.1 ≤ e.2) (hes : es.length < 1000) (hx : x0 < 1000) (hB : ∀ k, k < x0 → m ^ k * m < 80000) : ∀ (n k : Nat) (s3 s4 s5 s6 s7 s8 s9 s10 : Sl), k + n = x0 →
    ∃ s3' s4' s5' s6' s7' s8' s9' s10', forR (rgName 3).run (RS.run C E0 (cNode K)) ((List.range' k n).map fun (i : Nat) => .int (i : Int)) [.pu (.tuple [.int (x0 : Int), .tuple (es.map eP)]), .pu (.list (bbL near)), .pu (.list (lL (rowsM near m es k))), s3, s4, s5, s6, s7, s8, s9, s10] =
      .nx [.pu (.tuple [.int (x0 : Int), .tuple (es.map eP)]), .pu (.list (bbL near)), .pu (.list (lL (rowsM near m es x0))), s3', s4', s5', s6', s7', s8', s9', s10']
  | 0, k, s3, s4, s5, s6, s7, s8, s9, s10, hk => ⟨s3, s4, s5, s6, s7, s8, s9, s10, by rw [show k = x0 by omega]; rfl⟩
  | n + 1, k, s3, s4, s5, s6, s7, s8, s9, s10, hk => by
    obtain ⟨r1, r2⟩ := rowsM_ok (near := near) (m := m) (es := es) k
    obtain ⟨a4, a5, a6, a7, a8, a9, a10, h1⟩ := cNode_ok (C := C) (K := K) (x0 := x0) (k := k) (es := es) (R := rowsM near m es k) (s4 := s4) (s5 := s5) (s6 := s6) (s7 := s7) (s8 := s8) (s9 := s9) (s10 := s10) sq hm he hes (by omega) r1
      (Nat.lt_of_le_of_lt (Nat.mul_le_mul_right m r2) (hB k (by omega)))
    obtain ⟨b3, b4, b5, b6, b7, b8, b9, b10, h2⟩ := walkN sq hm he hes hx hB n (k + 1) (.pu (.int (k : Int))) a4 a5 a6 a7 a8 a9 a10 (by omega)
    refine ⟨b3, b4, b5, b6, b7, b8, b9, b10, ?_⟩
    rw [List.range'_succ, List.map_cons, forR]
    rw [rowsM] at h2
    simp only [run_gname] at h2
    simp only [run_gname, List.set_cons_zero, List.set_cons_succ, h1]
    exact h2
theorem lcount_ok {x0 : Nat} {es : List (Nat × Nat)} (sq : Sq near m) (hm : m ≤ 1000) (he : ∀ e ∈ es, e.1 ≤ e.2) (hes : es.length < 1000) (hx : x0 < 1000) (hB : ∀ k, k < x0 → m ^ k * m < 80000) :
    Flaw_count K C [.tuple [.int (x0 : Int), .tuple (es.map eP)], .list (bbL near)] = .ok (.int ((rowsM near m es x0).length : Int)) := by
  have un : (inlaw_count K C).run = RS.run C E0 (rdlaw_count K C) := rfl
  obtain ⟨s3, s4, s5, s6, s7, s8, s9, s10, h⟩ := walkN (C := C) (K := K) sq hm he hes hx hB x0 0 .any .any .any .any .any .any .any .any (by omega)
  have hfor : RS.run C E0 (tFor (iRng1 (tCons (tOp (rIxT K) (tVar 0) (tC (.int 0))) tNil)) (gName 3) (cNode K)) [.pu (.tuple [.int (x0 : Int), .tuple (es.map eP)]), .pu (.list (bbL near)), .pu (.list [.list []]), .any, .any, .any, .any, .any, .any, .any, .any] =
      .nx [.pu (.tuple [.int (x0 : Int), .tuple (es.map eP)]), .pu (.list (bbL near)), .pu (.list (lL (rowsM near m es x0))), s3, s4, s5, s6, s7, s8, s9, s10] := by
    rw [run_for]
    have hi : (RI.run C E0 (iRng1 (tCons (tOp (rIxT K) (tVar 0) (tC (.int 0))) tNil))) [.pu (.tuple [.int (x0 : Int), .tuple (es.map eP)]), .pu (.list (bbL near)), .pu (.list [.list []]), .any, .any, .any, .any, .any, .any, .any, .any] = some ((List.range' 0 x0).map fun (i : Nat) => .int (i : Int)) := by
      show rng1 (some [.int (Int.ofNat x0)]) = _
      unfold rng1
      simp only [show x0 ≤ 1000000 by omega, if_true]
      unfold rangeD
      rw [List.range_eq_range']
      simp only [Int.zero_add]
    dsimp only
    rw [hi, forA_some]
    exact h
  have s1 : RS.run C E0 (tAsg (tLst (tCons (tLst tNil) tNil)) (gName 2)) [.pu (.tuple [.int (x0 : Int), .tuple (es.map eP)]), .pu (.list (bbL near)), .any, .any, .any, .any, .any, .any, .any, .any, .any] = .nx [.pu (.tuple [.int (x0 : Int), .tuple (es.map eP)]), .pu (.list (bbL near)), .pu (.list [.list []]), .any, .any, .any, .any, .any, .any, .any, .any] := rfl
  unfold Flaw_count
  rw [un, run_seq]
  dsimp only
  rw [show startA 11 [.tuple [.int (x0 : Int), .tuple (es.map eP)], .list (bbL near)] = [.pu (.tuple [.int (x0 : Int), .tuple (es.map eP)]), .pu (.list (bbL near)), .any, .any, .any, .any, .any, .any, .any, .any, .any] from rfl, s1, seqR_nx, run_seq]
  dsimp only
  rw [hfor, seqR_nx]
  simp only [run_seq, run_ret, runW, run_cb, run_acons, run_anil, run_var, List.getElem?_cons_zero, List.getElem?_cons_succ, bd_ok, run_len, ofO, lL_len, retR, seqR, outF0]
end
end DL
end
section
set_option Elab.async false
set_option linter.all false
set_option warn.classDefReducibility false
set_option synthInstance.maxSize 1000000
set_option synthInstance.maxHeartbeats 4000000
set_option maxRecDepth 100000
set_option maxHeartbeats 4000000
namespace DL
open PySem L2 GX
/-! MT: the webs, their counts. Printed by genmt.py. -/
abbrev Wb := Nat × List (Nat × Nat)
def toD (w : Wb) : PyData := .tuple [.int (w.1 : Int), .tuple (w.2.map eP)]
def wsS0 : List Wb := [(0, []), (1, []), (2, []), (2, [(0, 1)]), (3, []), (3, [(0, 1)]), (3, [(0, 2)]), (3, [(0, 1), (0, 2)]), (3, [(1, 2)]), (3, [(0, 1), (1, 2)]), (3, [(0, 2), (1, 2)]), (3, [(0, 1), (0, 2), (1, 2)]), (4, [])]
def wsS1 : List Wb := [(4, [(0, 1)]), (4, [(0, 2)]), (4, [(0, 1), (0, 2)]), (4, [(1, 2)]), (4, [(0, 1), (1, 2)]), (4, [(0, 2), (1, 2)]), (4, [(0, 1), (0, 2), (1, 2)]), (4, [(0, 3)]), (4, [(0, 1), (0, 3)]), (4, [(0, 2), (0, 3)]), (4, [(0, 1), (0, 2), (0, 3)]), (4, [(0, 3), (1, 2)]), (4, [(0, 1), (0, 3), (1, 2)])]
def wsS2 : List Wb := [(4, [(0, 2), (0, 3), (1, 2)]), (4, [(0, 1), (0, 2), (0, 3), (1, 2)]), (4, [(1, 3)]), (4, [(0, 1), (1, 3)]), (4, [(0, 2), (1, 3)]), (4, [(0, 1), (0, 2), (1, 3)]), (4, [(1, 2), (1, 3)]), (4, [(0, 1), (1, 2), (1, 3)]), (4, [(0, 2), (1, 2), (1, 3)]), (4, [(0, 1), (0, 2), (1, 2), (1, 3)]), (4, [(0, 3), (1, 3)]), (4, [(0, 1), (0, 3), (1, 3)]), (4, [(0, 2), (0, 3), (1, 3)])]
def wsS3 : List Wb := [(4, [(0, 1), (0, 2), (0, 3), (1, 3)]), (4, [(0, 3), (1, 2), (1, 3)]), (4, [(0, 1), (0, 3), (1, 2), (1, 3)]), (4, [(0, 2), (0, 3), (1, 2), (1, 3)]), (4, [(0, 1), (0, 2), (0, 3), (1, 2), (1, 3)]), (4, [(2, 3)]), (4, [(0, 1), (2, 3)]), (4, [(0, 2), (2, 3)]), (4, [(0, 1), (0, 2), (2, 3)]), (4, [(1, 2), (2, 3)]), (4, [(0, 1), (1, 2), (2, 3)]), (4, [(0, 2), (1, 2), (2, 3)]), (4, [(0, 1), (0, 2), (1, 2), (2, 3)])]
def wsS4 : List Wb := [(4, [(0, 3), (2, 3)]), (4, [(0, 1), (0, 3), (2, 3)]), (4, [(0, 2), (0, 3), (2, 3)]), (4, [(0, 1), (0, 2), (0, 3), (2, 3)]), (4, [(0, 3), (1, 2), (2, 3)]), (4, [(0, 1), (0, 3), (1, 2), (2, 3)]), (4, [(0, 2), (0, 3), (1, 2), (2, 3)]), (4, [(0, 1), (0, 2), (0, 3), (1, 2), (2, 3)]), (4, [(1, 3), (2, 3)]), (4, [(0, 1), (1, 3), (2, 3)]), (4, [(0, 2), (1, 3), (2, 3)]), (4, [(0, 1), (0, 2), (1, 3), (2, 3)]), (4, [(1, 2), (1, 3), (2, 3)])]
def wsS5 : List Wb := [(4, [(0, 1), (1, 2), (1, 3), (2, 3)]), (4, [(0, 2), (1, 2), (1, 3), (2, 3)]), (4, [(0, 1), (0, 2), (1, 2), (1, 3), (2, 3)]), (4, [(0, 3), (1, 3), (2, 3)]), (4, [(0, 1), (0, 3), (1, 3), (2, 3)]), (4, [(0, 2), (0, 3), (1, 3), (2, 3)]), (4, [(0, 1), (0, 2), (0, 3), (1, 3), (2, 3)]), (4, [(0, 3), (1, 2), (1, 3), (2, 3)]), (4, [(0, 1), (0, 3), (1, 2), (1, 3), (2, 3)]), (4, [(0, 2), (0, 3), (1, 2), (1, 3), (2, 3)]), (4, [(0, 1), (0, 2), (0, 3), (1, 2), (1, 3), (2, 3)])]
def wsS : List Wb := wsS0 ++ wsS1 ++ wsS2 ++ wsS3 ++ wsS4 ++ wsS5
def wsL0 : List Wb := [(0, []), (1, []), (1, [(0, 0)]), (2, []), (2, [(0, 0)]), (2, [(0, 1)]), (2, [(0, 0), (0, 1)]), (2, [(1, 1)]), (2, [(0, 0), (1, 1)]), (2, [(0, 1), (1, 1)]), (2, [(0, 0), (0, 1), (1, 1)]), (3, []), (3, [(0, 0)])]
def wsL1 : List Wb := [(3, [(0, 1)]), (3, [(0, 0), (0, 1)]), (3, [(1, 1)]), (3, [(0, 0), (1, 1)]), (3, [(0, 1), (1, 1)]), (3, [(0, 0), (0, 1), (1, 1)]), (3, [(0, 2)]), (3, [(0, 0), (0, 2)]), (3, [(0, 1), (0, 2)]), (3, [(0, 0), (0, 1), (0, 2)]), (3, [(0, 2), (1, 1)]), (3, [(0, 0), (0, 2), (1, 1)]), (3, [(0, 1), (0, 2), (1, 1)])]
def wsL2 : List Wb := [(3, [(0, 0), (0, 1), (0, 2), (1, 1)]), (3, [(1, 2)]), (3, [(0, 0), (1, 2)]), (3, [(0, 1), (1, 2)]), (3, [(0, 0), (0, 1), (1, 2)]), (3, [(1, 1), (1, 2)]), (3, [(0, 0), (1, 1), (1, 2)]), (3, [(0, 1), (1, 1), (1, 2)]), (3, [(0, 0), (0, 1), (1, 1), (1, 2)]), (3, [(0, 2), (1, 2)]), (3, [(0, 0), (0, 2), (1, 2)]), (3, [(0, 1), (0, 2), (1, 2)]), (3, [(0, 0), (0, 1), (0, 2), (1, 2)])]
def wsL3 : List Wb := [(3, [(0, 2), (1, 1), (1, 2)]), (3, [(0, 0), (0, 2), (1, 1), (1, 2)]), (3, [(0, 1), (0, 2), (1, 1), (1, 2)]), (3, [(0, 0), (0, 1), (0, 2), (1, 1), (1, 2)]), (3, [(2, 2)]), (3, [(0, 0), (2, 2)]), (3, [(0, 1), (2, 2)]), (3, [(0, 0), (0, 1), (2, 2)]), (3, [(1, 1), (2, 2)]), (3, [(0, 0), (1, 1), (2, 2)]), (3, [(0, 1), (1, 1), (2, 2)]), (3, [(0, 0), (0, 1), (1, 1), (2, 2)]), (3, [(0, 2), (2, 2)])]
def wsL4 : List Wb := [(3, [(0, 0), (0, 2), (2, 2)]), (3, [(0, 1), (0, 2), (2, 2)]), (3, [(0, 0), (0, 1), (0, 2), (2, 2)]), (3, [(0, 2), (1, 1), (2, 2)]), (3, [(0, 0), (0, 2), (1, 1), (2, 2)]), (3, [(0, 1), (0, 2), (1, 1), (2, 2)]), (3, [(0, 0), (0, 1), (0, 2), (1, 1), (2, 2)]), (3, [(1, 2), (2, 2)]), (3, [(0, 0), (1, 2), (2, 2)]), (3, [(0, 1), (1, 2), (2, 2)]), (3, [(0, 0), (0, 1), (1, 2), (2, 2)]), (3, [(1, 1), (1, 2), (2, 2)]), (3, [(0, 0), (1, 1), (1, 2), (2, 2)])]
def wsL5 : List Wb := [(3, [(0, 1), (1, 1), (1, 2), (2, 2)]), (3, [(0, 0), (0, 1), (1, 1), (1, 2), (2, 2)]), (3, [(0, 2), (1, 2), (2, 2)]), (3, [(0, 0), (0, 2), (1, 2), (2, 2)]), (3, [(0, 1), (0, 2), (1, 2), (2, 2)]), (3, [(0, 0), (0, 1), (0, 2), (1, 2), (2, 2)]), (3, [(0, 2), (1, 1), (1, 2), (2, 2)]), (3, [(0, 0), (0, 2), (1, 1), (1, 2), (2, 2)]), (3, [(0, 1), (0, 2), (1, 1), (1, 2), (2, 2)]), (3, [(0, 0), (0, 1), (0, 2), (1, 1), (1, 2), (2, 2)])]
def wsL : List Wb := wsL0 ++ wsL1 ++ wsL2 ++ wsL3 ++ wsL4 ++ wsL5
def ca0 : List Wb := [(0, [])]
def ca1 : List Wb := [(1, [])]
def ca2 : List Wb := [(2, []), (2, [(0, 1)])]
def ca3 : List Wb := [(3, []), (3, [(0, 1)]), (3, [(0, 1), (0, 2)]), (3, [(0, 1), (0, 2), (1, 2)])]
def ca4 : List Wb := [(4, []), (4, [(0, 1)]), (4, [(0, 1), (0, 2)]), (4, [(0, 1), (0, 2), (1, 2)]), (4, [(0, 1), (0, 2), (0, 3)]), (4, [(0, 3), (1, 2)]), (4, [(0, 1), (0, 3), (1, 2)]), (4, [(0, 1), (0, 2), (0, 3), (1, 2)]), (4, [(0, 2), (0, 3), (1, 2), (1, 3)]), (4, [(0, 1), (0, 2), (0, 3), (1, 2), (1, 3)]), (4, [(0, 1), (0, 2), (0, 3), (1, 2), (1, 3), (2, 3)])]
def cb0 : List Wb := [(0, [])]
def cb1 : List Wb := [(1, []), (1, [(0, 0)])]
def cb2 : List Wb := [(2, []), (2, [(0, 0)]), (2, [(0, 1)]), (2, [(0, 0), (0, 1)]), (2, [(0, 0), (1, 1)]), (2, [(0, 0), (0, 1), (1, 1)])]
def cb3 : List Wb := [(3, []), (3, [(0, 0)]), (3, [(0, 1)]), (3, [(0, 0), (0, 1)]), (3, [(0, 0), (1, 1)]), (3, [(0, 0), (0, 1), (1, 1)]), (3, [(0, 1), (0, 2)]), (3, [(0, 0), (0, 1), (0, 2)]), (3, [(0, 2), (1, 1)]), (3, [(0, 0), (0, 2), (1, 1)]), (3, [(0, 1), (0, 2), (1, 1)]), (3, [(0, 0), (0, 1), (0, 2), (1, 1)]), (3, [(0, 1), (0, 2), (1, 2)]), (3, [(0, 0), (0, 1), (0, 2), (1, 2)]), (3, [(0, 0), (0, 2), (1, 1), (1, 2)]), (3, [(0, 0), (0, 1), (0, 2), (1, 1), (1, 2)]), (3, [(0, 0), (1, 1), (2, 2)]), (3, [(0, 0), (0, 1), (1, 1), (2, 2)]), (3, [(0, 0), (0, 1), (0, 2), (1, 1), (2, 2)]), (3, [(0, 0), (0, 1), (0, 2), (1, 1), (1, 2), (2, 2)])]
def ctS : List Wb := ca0 ++ ca1 ++ ca2 ++ ca3 ++ ca4
def ctL : List Wb := cb0 ++ cb1 ++ cb2 ++ cb3
def tbS0 : List (List Nat) := [[1, 0, 0, 0, 0, 0, 0, 0, 0, 0, 0, 0, 0, 0, 0, 0, 0, 0, 0], [1, 1, 1, 0, 1, 0, 0, 0, 1, 0, 0, 0, 0, 0, 0, 0, 0, 0, 0], [1, 2, 4, 0, 8, 0, 0, 0, 16, 0, 0, 0, 0, 0, 0, 0, 0, 0, 0], [1, 2, 4, 2, 8, 4, 2, 0, 16, 8, 4, 0, 2, 4, 2, 0, 2, 0, 0], [1, 3, 9, 0, 27, 0, 0, 0, 81, 0, 0, 0, 0, 0, 0, 0, 0, 0, 0], [1, 3, 9, 2, 27, 6, 2, 0, 81, 18, 6, 0, 2, 4, 2, 0, 2, 0, 0], [1, 3, 9, 2, 27, 6, 2, 0, 81, 18, 6, 0, 2, 4, 2, 0, 2, 0, 0], [1, 3, 9, 4, 27, 12, 6, 0, 81, 36, 18, 0, 10, 16, 8, 0, 8, 0, 0], [1, 3, 9, 2, 27, 6, 2, 0, 81, 18, 6, 0, 2, 4, 2, 0, 2, 0, 0], [1, 3, 9, 4, 27, 12, 6, 0, 81, 36, 18, 0, 10, 16, 8, 0, 8, 0, 0], [1, 3, 9, 4, 27, 12, 6, 0, 81, 36, 18, 0, 10, 16, 8, 0, 8, 0, 0], [1, 3, 9, 6, 27, 18, 12, 6, 81, 54, 36, 18, 24, 36, 24, 12, 18, 6, 0], [1, 4, 16, 0, 64, 0, 0, 0, 256, 0, 0, 0, 0, 0, 0, 0, 0, 0, 0]]
def tbS1 : List (List Nat) := [[1, 4, 16, 2, 64, 8, 2, 0, 256, 32, 8, 0, 2, 4, 2, 0, 2, 0, 0], [1, 4, 16, 2, 64, 8, 2, 0, 256, 32, 8, 0, 2, 4, 2, 0, 2, 0, 0], [1, 4, 16, 4, 64, 16, 6, 0, 256, 64, 24, 0, 10, 16, 8, 0, 8, 0, 0], [1, 4, 16, 2, 64, 8, 2, 0, 256, 32, 8, 0, 2, 4, 2, 0, 2, 0, 0], [1, 4, 16, 4, 64, 16, 6, 0, 256, 64, 24, 0, 10, 16, 8, 0, 8, 0, 0], [1, 4, 16, 4, 64, 16, 6, 0, 256, 64, 24, 0, 10, 16, 8, 0, 8, 0, 0], [1, 4, 16, 6, 64, 24, 12, 6, 256, 96, 48, 24, 24, 36, 24, 12, 18, 6, 0], [1, 4, 16, 2, 64, 8, 2, 0, 256, 32, 8, 0, 2, 4, 2, 0, 2, 0, 0], [1, 4, 16, 4, 64, 16, 6, 0, 256, 64, 24, 0, 10, 16, 8, 0, 8, 0, 0], [1, 4, 16, 4, 64, 16, 6, 0, 256, 64, 24, 0, 10, 16, 8, 0, 8, 0, 0], [1, 4, 16, 6, 64, 24, 12, 0, 256, 96, 48, 0, 30, 36, 18, 0, 18, 0, 0], [1, 4, 16, 4, 64, 16, 4, 0, 256, 64, 16, 0, 4, 16, 4, 0, 4, 0, 0], [1, 4, 16, 6, 64, 24, 10, 0, 256, 96, 40, 0, 18, 36, 16, 0, 14, 0, 0]]
def tbS2 : List (List Nat) := [[1, 4, 16, 6, 64, 24, 10, 0, 256, 96, 40, 0, 18, 36, 16, 0, 14, 0, 0], [1, 4, 16, 8, 64, 32, 18, 6, 256, 128, 72, 24, 44, 64, 38, 14, 28, 6, 0], [1, 4, 16, 2, 64, 8, 2, 0, 256, 32, 8, 0, 2, 4, 2, 0, 2, 0, 0], [1, 4, 16, 4, 64, 16, 6, 0, 256, 64, 24, 0, 10, 16, 8, 0, 8, 0, 0], [1, 4, 16, 4, 64, 16, 4, 0, 256, 64, 16, 0, 4, 16, 4, 0, 4, 0, 0], [1, 4, 16, 6, 64, 24, 10, 0, 256, 96, 40, 0, 18, 36, 16, 0, 14, 0, 0], [1, 4, 16, 4, 64, 16, 6, 0, 256, 64, 24, 0, 10, 16, 8, 0, 8, 0, 0], [1, 4, 16, 6, 64, 24, 12, 0, 256, 96, 48, 0, 30, 36, 18, 0, 18, 0, 0], [1, 4, 16, 6, 64, 24, 10, 0, 256, 96, 40, 0, 18, 36, 16, 0, 14, 0, 0], [1, 4, 16, 8, 64, 32, 18, 6, 256, 128, 72, 24, 44, 64, 38, 14, 28, 6, 0], [1, 4, 16, 4, 64, 16, 6, 0, 256, 64, 24, 0, 10, 16, 8, 0, 8, 0, 0], [1, 4, 16, 6, 64, 24, 12, 6, 256, 96, 48, 24, 24, 36, 24, 12, 18, 6, 0], [1, 4, 16, 6, 64, 24, 10, 0, 256, 96, 40, 0, 18, 36, 16, 0, 14, 0, 0]]
def tbS3 : List (List Nat) := [[1, 4, 16, 8, 64, 32, 18, 6, 256, 128, 72, 24, 44, 64, 38, 14, 28, 6, 0], [1, 4, 16, 6, 64, 24, 10, 0, 256, 96, 40, 0, 18, 36, 16, 0, 14, 0, 0], [1, 4, 16, 8, 64, 32, 18, 6, 256, 128, 72, 24, 44, 64, 38, 14, 28, 6, 0], [1, 4, 16, 8, 64, 32, 16, 0, 256, 128, 64, 0, 32, 64, 32, 0, 32, 0, 0], [1, 4, 16, 10, 64, 40, 26, 12, 256, 160, 104, 48, 70, 100, 66, 32, 50, 16, 0], [1, 4, 16, 2, 64, 8, 2, 0, 256, 32, 8, 0, 2, 4, 2, 0, 2, 0, 0], [1, 4, 16, 4, 64, 16, 4, 0, 256, 64, 16, 0, 4, 16, 4, 0, 4, 0, 0], [1, 4, 16, 4, 64, 16, 6, 0, 256, 64, 24, 0, 10, 16, 8, 0, 8, 0, 0], [1, 4, 16, 6, 64, 24, 10, 0, 256, 96, 40, 0, 18, 36, 16, 0, 14, 0, 0], [1, 4, 16, 4, 64, 16, 6, 0, 256, 64, 24, 0, 10, 16, 8, 0, 8, 0, 0], [1, 4, 16, 6, 64, 24, 10, 0, 256, 96, 40, 0, 18, 36, 16, 0, 14, 0, 0], [1, 4, 16, 6, 64, 24, 12, 0, 256, 96, 48, 0, 30, 36, 18, 0, 18, 0, 0], [1, 4, 16, 8, 64, 32, 18, 6, 256, 128, 72, 24, 44, 64, 38, 14, 28, 6, 0]]
def tbS4 : List (List Nat) := [[1, 4, 16, 4, 64, 16, 6, 0, 256, 64, 24, 0, 10, 16, 8, 0, 8, 0, 0], [1, 4, 16, 6, 64, 24, 10, 0, 256, 96, 40, 0, 18, 36, 16, 0, 14, 0, 0], [1, 4, 16, 6, 64, 24, 12, 6, 256, 96, 48, 24, 24, 36, 24, 12, 18, 6, 0], [1, 4, 16, 8, 64, 32, 18, 6, 256, 128, 72, 24, 44, 64, 38, 14, 28, 6, 0], [1, 4, 16, 6, 64, 24, 10, 0, 256, 96, 40, 0, 18, 36, 16, 0, 14, 0, 0], [1, 4, 16, 8, 64, 32, 16, 0, 256, 128, 64, 0, 32, 64, 32, 0, 32, 0, 0], [1, 4, 16, 8, 64, 32, 18, 6, 256, 128, 72, 24, 44, 64, 38, 14, 28, 6, 0], [1, 4, 16, 10, 64, 40, 26, 12, 256, 160, 104, 48, 70, 100, 66, 32, 50, 16, 0], [1, 4, 16, 4, 64, 16, 6, 0, 256, 64, 24, 0, 10, 16, 8, 0, 8, 0, 0], [1, 4, 16, 6, 64, 24, 10, 0, 256, 96, 40, 0, 18, 36, 16, 0, 14, 0, 0], [1, 4, 16, 6, 64, 24, 10, 0, 256, 96, 40, 0, 18, 36, 16, 0, 14, 0, 0], [1, 4, 16, 8, 64, 32, 16, 0, 256, 128, 64, 0, 32, 64, 32, 0, 32, 0, 0], [1, 4, 16, 6, 64, 24, 12, 6, 256, 96, 48, 24, 24, 36, 24, 12, 18, 6, 0]]
def tbS5 : List (List Nat) := [[1, 4, 16, 8, 64, 32, 18, 6, 256, 128, 72, 24, 44, 64, 38, 14, 28, 6, 0], [1, 4, 16, 8, 64, 32, 18, 6, 256, 128, 72, 24, 44, 64, 38, 14, 28, 6, 0], [1, 4, 16, 10, 64, 40, 26, 12, 256, 160, 104, 48, 70, 100, 66, 32, 50, 16, 0], [1, 4, 16, 6, 64, 24, 12, 0, 256, 96, 48, 0, 30, 36, 18, 0, 18, 0, 0], [1, 4, 16, 8, 64, 32, 18, 6, 256, 128, 72, 24, 44, 64, 38, 14, 28, 6, 0], [1, 4, 16, 8, 64, 32, 18, 6, 256, 128, 72, 24, 44, 64, 38, 14, 28, 6, 0], [1, 4, 16, 10, 64, 40, 26, 12, 256, 160, 104, 48, 70, 100, 66, 32, 50, 16, 0], [1, 4, 16, 8, 64, 32, 18, 6, 256, 128, 72, 24, 44, 64, 38, 14, 28, 6, 0], [1, 4, 16, 10, 64, 40, 26, 12, 256, 160, 104, 48, 70, 100, 66, 32, 50, 16, 0], [1, 4, 16, 10, 64, 40, 26, 12, 256, 160, 104, 48, 70, 100, 66, 32, 50, 16, 0], [1, 4, 16, 12, 64, 48, 36, 24, 256, 192, 144, 96, 108, 144, 108, 72, 84, 48, 24]]
def tbS : List (List Nat) := tbS0 ++ tbS1 ++ tbS2 ++ tbS3 ++ tbS4 ++ tbS5
def tbL0 : List (List Nat) := [[1, 0, 0, 0, 0, 0, 0, 0, 0, 0, 0, 0, 0, 0, 0, 0, 0, 0, 0, 0, 0, 0, 0, 0, 0, 0, 0, 0, 0], [1, 1, 0, 1, 0, 0, 0, 0, 0, 1, 0, 0, 0, 0, 0, 0, 0, 0, 0, 0, 0, 0, 0, 0, 0, 0, 0, 0, 0], [1, 1, 1, 1, 1, 1, 1, 1, 1, 1, 1, 1, 1, 1, 1, 1, 1, 1, 1, 1, 1, 1, 1, 1, 1, 1, 1, 1, 1], [1, 2, 0, 4, 0, 0, 0, 0, 0, 8, 0, 0, 0, 0, 0, 0, 0, 0, 0, 0, 0, 0, 0, 0, 0, 0, 0, 0, 0], [1, 2, 1, 4, 2, 1, 1, 1, 1, 8, 4, 2, 2, 2, 2, 1, 1, 1, 1, 1, 1, 1, 1, 1, 1, 1, 1, 1, 1], [1, 2, 0, 4, 0, 2, 0, 0, 0, 8, 0, 4, 0, 0, 0, 2, 0, 0, 0, 0, 0, 0, 0, 0, 0, 0, 0, 0, 0], [1, 2, 1, 4, 2, 3, 2, 1, 1, 8, 4, 6, 4, 2, 2, 5, 4, 3, 2, 3, 2, 4, 3, 2, 2, 1, 1, 1, 1], [1, 2, 1, 4, 2, 1, 1, 1, 1, 8, 4, 2, 2, 2, 2, 1, 1, 1, 1, 1, 1, 1, 1, 1, 1, 1, 1, 1, 1], [1, 2, 2, 4, 4, 2, 2, 4, 2, 8, 8, 4, 4, 8, 4, 2, 2, 4, 4, 2, 2, 2, 2, 2, 2, 8, 4, 2, 2], [1, 2, 1, 4, 2, 3, 2, 1, 1, 8, 4, 6, 4, 2, 2, 5, 4, 3, 2, 3, 2, 4, 3, 2, 2, 1, 1, 1, 1], [1, 2, 2, 4, 4, 4, 4, 4, 4, 8, 8, 8, 8, 8, 8, 8, 8, 8, 8, 8, 8, 8, 8, 8, 8, 8, 8, 8, 8], [1, 3, 0, 9, 0, 0, 0, 0, 0, 27, 0, 0, 0, 0, 0, 0, 0, 0, 0, 0, 0, 0, 0, 0, 0, 0, 0, 0, 0], [1, 3, 1, 9, 3, 1, 1, 1, 1, 27, 9, 3, 3, 3, 3, 1, 1, 1, 1, 1, 1, 1, 1, 1, 1, 1, 1, 1, 1]]
def tbL1 : List (List Nat) := [[1, 3, 0, 9, 0, 2, 0, 0, 0, 27, 0, 6, 0, 0, 0, 2, 0, 0, 0, 0, 0, 0, 0, 0, 0, 0, 0, 0, 0], [1, 3, 1, 9, 3, 3, 2, 1, 1, 27, 9, 9, 6, 3, 3, 5, 4, 3, 2, 3, 2, 4, 3, 2, 2, 1, 1, 1, 1], [1, 3, 1, 9, 3, 1, 1, 1, 1, 27, 9, 3, 3, 3, 3, 1, 1, 1, 1, 1, 1, 1, 1, 1, 1, 1, 1, 1, 1], [1, 3, 2, 9, 6, 2, 2, 4, 2, 27, 18, 6, 6, 12, 6, 2, 2, 4, 4, 2, 2, 2, 2, 2, 2, 8, 4, 2, 2], [1, 3, 1, 9, 3, 3, 2, 1, 1, 27, 9, 9, 6, 3, 3, 5, 4, 3, 2, 3, 2, 4, 3, 2, 2, 1, 1, 1, 1], [1, 3, 2, 9, 6, 4, 4, 4, 4, 27, 18, 12, 12, 12, 12, 8, 8, 8, 8, 8, 8, 8, 8, 8, 8, 8, 8, 8, 8], [1, 3, 0, 9, 0, 2, 0, 0, 0, 27, 0, 6, 0, 0, 0, 2, 0, 0, 0, 0, 0, 0, 0, 0, 0, 0, 0, 0, 0], [1, 3, 1, 9, 3, 3, 2, 1, 1, 27, 9, 9, 6, 3, 3, 5, 4, 3, 2, 3, 2, 4, 3, 2, 2, 1, 1, 1, 1], [1, 3, 0, 9, 0, 4, 0, 0, 0, 27, 0, 12, 0, 0, 0, 6, 0, 0, 0, 0, 0, 0, 0, 0, 0, 0, 0, 0, 0], [1, 3, 1, 9, 3, 5, 3, 1, 1, 27, 9, 15, 9, 3, 3, 11, 9, 5, 3, 5, 3, 7, 5, 3, 3, 1, 1, 1, 1], [1, 3, 1, 9, 3, 3, 1, 1, 1, 27, 9, 9, 3, 3, 3, 3, 1, 3, 1, 1, 1, 1, 1, 1, 1, 1, 1, 1, 1], [1, 3, 2, 9, 6, 4, 3, 4, 2, 27, 18, 12, 9, 12, 6, 6, 5, 8, 6, 4, 3, 5, 4, 3, 3, 8, 4, 2, 2], [1, 3, 1, 9, 3, 5, 2, 1, 1, 27, 9, 15, 6, 3, 3, 9, 4, 5, 2, 4, 2, 4, 3, 2, 2, 1, 1, 1, 1]]
def tbL2 : List (List Nat) := [[1, 3, 2, 9, 6, 6, 5, 4, 4, 27, 18, 18, 15, 12, 12, 14, 13, 12, 10, 11, 10, 11, 10, 9, 9, 8, 8, 8, 8], [1, 3, 0, 9, 0, 2, 0, 0, 0, 27, 0, 6, 0, 0, 0, 2, 0, 0, 0, 0, 0, 0, 0, 0, 0, 0, 0, 0, 0], [1, 3, 1, 9, 3, 3, 1, 1, 1, 27, 9, 9, 3, 3, 3, 3, 1, 3, 1, 1, 1, 1, 1, 1, 1, 1, 1, 1, 1], [1, 3, 0, 9, 0, 4, 0, 0, 0, 27, 0, 12, 0, 0, 0, 6, 0, 0, 0, 0, 0, 0, 0, 0, 0, 0, 0, 0, 0], [1, 3, 1, 9, 3, 5, 2, 1, 1, 27, 9, 15, 6, 3, 3, 9, 4, 5, 2, 4, 2, 4, 3, 2, 2, 1, 1, 1, 1], [1, 3, 1, 9, 3, 3, 2, 1, 1, 27, 9, 9, 6, 3, 3, 5, 4, 3, 2, 3, 2, 4, 3, 2, 2, 1, 1, 1, 1], [1, 3, 2, 9, 6, 4, 3, 4, 2, 27, 18, 12, 9, 12, 6, 6, 5, 8, 6, 4, 3, 5, 4, 3, 3, 8, 4, 2, 2], [1, 3, 1, 9, 3, 5, 3, 1, 1, 27, 9, 15, 9, 3, 3, 11, 9, 5, 3, 5, 3, 7, 5, 3, 3, 1, 1, 1, 1], [1, 3, 2, 9, 6, 6, 5, 4, 4, 27, 18, 18, 15, 12, 12, 14, 13, 12, 10, 11, 10, 11, 10, 9, 9, 8, 8, 8, 8], [1, 3, 0, 9, 0, 4, 0, 0, 0, 27, 0, 12, 0, 0, 0, 6, 0, 0, 0, 0, 0, 0, 0, 0, 0, 0, 0, 0, 0], [1, 3, 1, 9, 3, 5, 2, 1, 1, 27, 9, 15, 6, 3, 3, 9, 4, 5, 2, 4, 2, 4, 3, 2, 2, 1, 1, 1, 1], [1, 3, 0, 9, 0, 6, 0, 0, 0, 27, 0, 18, 0, 0, 0, 12, 0, 0, 0, 0, 0, 6, 0, 0, 0, 0, 0, 0, 0], [1, 3, 1, 9, 3, 7, 3, 1, 1, 27, 9, 21, 9, 3, 3, 17, 9, 7, 3, 7, 3, 13, 7, 3, 3, 1, 1, 1, 1]]
def tbL3 : List (List Nat) := [[1, 3, 1, 9, 3, 5, 2, 1, 1, 27, 9, 15, 6, 3, 3, 9, 4, 5, 2, 4, 2, 4, 3, 2, 2, 1, 1, 1, 1], [1, 3, 2, 9, 6, 6, 4, 4, 2, 27, 18, 18, 12, 12, 6, 12, 8, 12, 8, 8, 4, 8, 6, 6, 4, 8, 4, 2, 2], [1, 3, 1, 9, 3, 7, 3, 1, 1, 27, 9, 21, 9, 3, 3, 17, 9, 7, 3, 7, 3, 13, 7, 3, 3, 1, 1, 1, 1], [1, 3, 2, 9, 6, 8, 6, 4, 4, 27, 18, 24, 18, 12, 12, 22, 18, 16, 12, 16, 12, 20, 16, 12, 12, 8, 8, 8, 8], [1, 3, 1, 9, 3, 1, 1, 1, 1, 27, 9, 3, 3, 3, 3, 1, 1, 1, 1, 1, 1, 1, 1, 1, 1, 1, 1, 1, 1], [1, 3, 2, 9, 6, 2, 2, 4, 2, 27, 18, 6, 6, 12, 6, 2, 2, 4, 4, 2, 2, 2, 2, 2, 2, 8, 4, 2, 2], [1, 3, 1, 9, 3, 3, 1, 1, 1, 27, 9, 9, 3, 3, 3, 3, 1, 3, 1, 1, 1, 1, 1, 1, 1, 1, 1, 1, 1], [1, 3, 2, 9, 6, 4, 3, 4, 2, 27, 18, 12, 9, 12, 6, 6, 5, 8, 6, 4, 3, 5, 4, 3, 3, 8, 4, 2, 2], [1, 3, 2, 9, 6, 2, 2, 4, 2, 27, 18, 6, 6, 12, 6, 2, 2, 4, 4, 2, 2, 2, 2, 2, 2, 8, 4, 2, 2], [1, 3, 3, 9, 9, 3, 3, 9, 3, 27, 27, 9, 9, 27, 9, 3, 3, 9, 9, 3, 3, 3, 3, 3, 3, 27, 9, 3, 3], [1, 3, 2, 9, 6, 4, 3, 4, 2, 27, 18, 12, 9, 12, 6, 6, 5, 8, 6, 4, 3, 5, 4, 3, 3, 8, 4, 2, 2], [1, 3, 3, 9, 9, 5, 5, 9, 5, 27, 27, 15, 15, 27, 15, 9, 9, 15, 15, 9, 9, 9, 9, 9, 9, 27, 15, 9, 9], [1, 3, 1, 9, 3, 3, 2, 1, 1, 27, 9, 9, 6, 3, 3, 5, 4, 3, 2, 3, 2, 4, 3, 2, 2, 1, 1, 1, 1]]
def tbL4 : List (List Nat) := [[1, 3, 2, 9, 6, 4, 4, 4, 4, 27, 18, 12, 12, 12, 12, 8, 8, 8, 8, 8, 8, 8, 8, 8, 8, 8, 8, 8, 8], [1, 3, 1, 9, 3, 5, 2, 1, 1, 27, 9, 15, 6, 3, 3, 9, 4, 5, 2, 4, 2, 4, 3, 2, 2, 1, 1, 1, 1], [1, 3, 2, 9, 6, 6, 5, 4, 4, 27, 18, 18, 15, 12, 12, 14, 13, 12, 10, 11, 10, 11, 10, 9, 9, 8, 8, 8, 8], [1, 3, 2, 9, 6, 4, 3, 4, 2, 27, 18, 12, 9, 12, 6, 6, 5, 8, 6, 4, 3, 5, 4, 3, 3, 8, 4, 2, 2], [1, 3, 3, 9, 9, 5, 5, 9, 5, 27, 27, 15, 15, 27, 15, 9, 9, 15, 15, 9, 9, 9, 9, 9, 9, 27, 15, 9, 9], [1, 3, 2, 9, 6, 6, 4, 4, 2, 27, 18, 18, 12, 12, 6, 12, 8, 12, 8, 8, 4, 8, 6, 6, 4, 8, 4, 2, 2], [1, 3, 3, 9, 9, 7, 7, 9, 7, 27, 27, 21, 21, 27, 21, 17, 17, 21, 21, 17, 17, 15, 15, 17, 15, 27, 21, 17, 15], [1, 3, 1, 9, 3, 3, 2, 1, 1, 27, 9, 9, 6, 3, 3, 5, 4, 3, 2, 3, 2, 4, 3, 2, 2, 1, 1, 1, 1], [1, 3, 2, 9, 6, 4, 3, 4, 2, 27, 18, 12, 9, 12, 6, 6, 5, 8, 6, 4, 3, 5, 4, 3, 3, 8, 4, 2, 2], [1, 3, 1, 9, 3, 5, 2, 1, 1, 27, 9, 15, 6, 3, 3, 9, 4, 5, 2, 4, 2, 4, 3, 2, 2, 1, 1, 1, 1], [1, 3, 2, 9, 6, 6, 4, 4, 2, 27, 18, 18, 12, 12, 6, 12, 8, 12, 8, 8, 4, 8, 6, 6, 4, 8, 4, 2, 2], [1, 3, 2, 9, 6, 4, 4, 4, 4, 27, 18, 12, 12, 12, 12, 8, 8, 8, 8, 8, 8, 8, 8, 8, 8, 8, 8, 8, 8], [1, 3, 3, 9, 9, 5, 5, 9, 5, 27, 27, 15, 15, 27, 15, 9, 9, 15, 15, 9, 9, 9, 9, 9, 9, 27, 15, 9, 9]]
def tbL5 : List (List Nat) := [[1, 3, 2, 9, 6, 6, 5, 4, 4, 27, 18, 18, 15, 12, 12, 14, 13, 12, 10, 11, 10, 11, 10, 9, 9, 8, 8, 8, 8], [1, 3, 3, 9, 9, 7, 7, 9, 7, 27, 27, 21, 21, 27, 21, 17, 17, 21, 21, 17, 17, 15, 15, 17, 15, 27, 21, 17, 15], [1, 3, 1, 9, 3, 5, 3, 1, 1, 27, 9, 15, 9, 3, 3, 11, 9, 5, 3, 5, 3, 7, 5, 3, 3, 1, 1, 1, 1], [1, 3, 2, 9, 6, 6, 5, 4, 4, 27, 18, 18, 15, 12, 12, 14, 13, 12, 10, 11, 10, 11, 10, 9, 9, 8, 8, 8, 8], [1, 3, 1, 9, 3, 7, 3, 1, 1, 27, 9, 21, 9, 3, 3, 17, 9, 7, 3, 7, 3, 13, 7, 3, 3, 1, 1, 1, 1], [1, 3, 2, 9, 6, 8, 6, 4, 4, 27, 18, 24, 18, 12, 12, 22, 18, 16, 12, 16, 12, 20, 16, 12, 12, 8, 8, 8, 8], [1, 3, 2, 9, 6, 6, 5, 4, 4, 27, 18, 18, 15, 12, 12, 14, 13, 12, 10, 11, 10, 11, 10, 9, 9, 8, 8, 8, 8], [1, 3, 3, 9, 9, 7, 7, 9, 7, 27, 27, 21, 21, 27, 21, 17, 17, 21, 21, 17, 17, 15, 15, 17, 15, 27, 21, 17, 15], [1, 3, 2, 9, 6, 8, 6, 4, 4, 27, 18, 24, 18, 12, 12, 22, 18, 16, 12, 16, 12, 20, 16, 12, 12, 8, 8, 8, 8], [1, 3, 3, 9, 9, 9, 9, 9, 9, 27, 27, 27, 27, 27, 27, 27, 27, 27, 27, 27, 27, 27, 27, 27, 27, 27, 27, 27, 27]]
def tbL : List (List Nat) := tbL0 ++ tbL1 ++ tbL2 ++ tbL3 ++ tbL4 ++ tbL5
def cnS0 : List (Nat × Nat) := [(0, 0), (1, 0), (2, 0), (2, 2), (3, 0), (3, 2), (3, 2), (3, 10), (3, 2), (3, 10), (3, 10), (3, 26), (4, 0)]
def cnS1 : List (Nat × Nat) := [(4, 2), (4, 2), (4, 10), (4, 2), (4, 10), (4, 10), (4, 26), (4, 2), (4, 10), (4, 10), (4, 74), (4, 80), (4, 82)]
def cnS2 : List (Nat × Nat) := [(4, 82), (4, 90), (4, 2), (4, 10), (4, 80), (4, 82), (4, 10), (4, 74), (4, 82), (4, 90), (4, 10), (4, 26), (4, 82)]
def cnS3 : List (Nat × Nat) := [(4, 90), (4, 82), (4, 90), (4, 216), (4, 218), (4, 2), (4, 80), (4, 10), (4, 82), (4, 10), (4, 82), (4, 74), (4, 90)]
def cnS4 : List (Nat × Nat) := [(4, 10), (4, 82), (4, 26), (4, 90), (4, 82), (4, 216), (4, 90), (4, 218), (4, 10), (4, 82), (4, 82), (4, 216), (4, 26)]
def cnS5 : List (Nat × Nat) := [(4, 90), (4, 90), (4, 218), (4, 74), (4, 90), (4, 90), (4, 218), (4, 90), (4, 218), (4, 218), (4, 474)]
def cnS : List (Nat × Nat) := cnS0 ++ cnS1 ++ cnS2 ++ cnS3 ++ cnS4 ++ cnS5
def cnL0 : List (Nat × Nat) := [(0, 0), (1, 0), (1, 1), (2, 0), (2, 1), (2, 2), (2, 3), (2, 1), (2, 5), (2, 3), (2, 7), (3, 0), (3, 1)]
def cnL1 : List (Nat × Nat) := [(3, 2), (3, 3), (3, 1), (3, 5), (3, 3), (3, 7), (3, 2), (3, 3), (3, 10), (3, 11), (3, 12), (3, 13), (3, 14)]
def cnL2 : List (Nat × Nat) := [(3, 15), (3, 2), (3, 12), (3, 10), (3, 14), (3, 3), (3, 13), (3, 11), (3, 15), (3, 10), (3, 14), (3, 26), (3, 27)]
def cnL3 : List (Nat × Nat) := [(3, 14), (3, 29), (3, 27), (3, 31), (3, 1), (3, 5), (3, 12), (3, 13), (3, 5), (3, 37), (3, 13), (3, 39), (3, 3)]
def cnL4 : List (Nat × Nat) := [(3, 7), (3, 14), (3, 15), (3, 13), (3, 39), (3, 29), (3, 47), (3, 3), (3, 13), (3, 14), (3, 29), (3, 7), (3, 39)]
def cnL5 : List (Nat × Nat) := [(3, 15), (3, 47), (3, 11), (3, 15), (3, 27), (3, 31), (3, 15), (3, 47), (3, 31), (3, 63)]
def cnL : List (Nat × Nat) := cnL0 ++ cnL1 ++ cnL2 ++ cnL3 ++ cnL4 ++ cnL5
def adj (w : Wb) (u v : Nat) : Bool := decide ((u, v) ∈ w.2) || decide ((v, u) ∈ w.2)
def nrM (w : Wb) : List (List Nat) := (List.range w.1).map fun u => (List.range w.1).filter fun v => adj w u v
def mxM (w : Wb) : List (List Bool) := (List.range w.1).map fun u => (List.range w.1).map fun v => adj w u v
def erM (w : Wb) : List (List Nat) := (List.range w.1).map fun u => (List.range (u + 1)).filter fun v => adj w u v
def cntH (x a : Wb) : Nat := (rest (erM x) (nrM a) a.1 x.1 []).length
def cntL (x a : Wb) : Nat := (rowsM (mxM a) a.1 x.2 x.1).length
end DL
end
section
set_option Elab.async false
set_option linter.all false
set_option maxRecDepth 100000
set_option maxHeartbeats 4000000
/-! MZ: counts of webs, by the mirrors. -/
namespace DL
open PySem L2 GX
theorem erM_len (x : Wb) : (erM x).length = x.1 := by unfold erM; rw [List.length_map, List.length_range]
theorem nrM_len (x : Wb) : (nrM x).length = x.1 := by unfold nrM; rw [List.length_map, List.length_range]
theorem mxM_sq (a : Wb) : Sq (mxM a) a.1 := ⟨by unfold mxM; rw [List.length_map, List.length_range], fun r hr => by
  unfold mxM at hr
  obtain ⟨u, _, rfl⟩ := List.mem_map.mp hr
  rw [List.length_map, List.length_range]⟩
section
variable {K : PySem.W.Frag} {C : Addr}
theorem fits_Fok (x a : Wb) : Fok (fFits K C) (erM x) (nrM a) x.1 a.1 := fun row v h1 h2 => by
  have h3 : row.length < (erM x).length := by rw [erM_len]; exact h1
  have h4 : v < (nrM a).length := by rw [nrM_len]; exact h2
  have := fits_ok (C := C) (K := K) (er := erM x) (near := nrM a) (row := row) (value := v) h4 h3
  unfold fFits fitM
  rw [this, List.getElem?_eq_getElem h3, List.getElem?_eq_getElem h4]
  rfl
theorem homs_eq {x a : Wb} {dm : PyData} (hm : fMaps K C [.int (x.1 : Int), .int (a.1 : Int), .int 4096] = .ok dm)
    (hE : (inEar K C (fNR K C)).run [.pu (toD x), .pu (toD a), .any, .any, .any, .any, .any, .any, .any] = .ok (.list (lL (erM x))))
    (hN : fNR K C [toD a] = .ok (.list (lL (nrM a)))) (hx : x.1 < 900) (hz : (rest (erM x) (nrM a) a.1 x.1 []).length < 90000) (ht : turns a.1 x.1 < 900000) :
    fHoms K C [toD x, toD a] = .ok (.int (cntH x a : Int)) := by
  have h := ghoms_ok (C := C) (K := K) (fm := fMaps K C) (fn := fNR K C) (ff := fFits K C) (X := .tuple (x.2.map eP)) (A := .tuple (a.2.map eP)) hm hE hN (fits_Fok x a) hx hz ht
  have h2 := chom_ok (C := C) (K := K) (g := gHoms K C) (x := toD x) (a := toD a) h
  unfold fHoms
  rw [h2, tL_len]
  rfl
theorem lcnt_eq {x a : Wb} (hm : a.1 ≤ 10) (he : ∀ e ∈ x.2, e.1 ≤ e.2) (hes : x.2.length < 1000) (hx : x.1 ≤ 4) : fLcnt K C [toD x, .list (bbL (mxM a))] = .ok (.int (cntL x a : Int)) := by
  refine lcount_ok (mxM_sq a) (by omega) he hes (by omega) fun k hk => ?_
  have h1 : a.1 ^ k ≤ 10 ^ k := Nat.pow_le_pow_left hm k
  have h2 : 10 ^ k ≤ 10 ^ 3 := Nat.pow_le_pow_right (by decide) (by omega)
  have : a.1 ^ k * a.1 ≤ 10 ^ 3 * 10 := Nat.mul_le_mul (Nat.le_trans h1 h2) hm
  omega
end
end DL
end
section
set_option Elab.async false
set_option linter.all false
set_option maxRecDepth 100000
set_option maxHeartbeats 4000000
/-! MCL: the law's count and the program's count are one; a quick way to count. -/
namespace DL
open PySem L2 GX
theorem adj_symm (w : Wb) (u v : Nat) : adj w u v = adj w v u := by unfold adj; rw [Bool.or_comm]
theorem nb_mxM {a : Wb} {p v : Nat} (hp : p < a.1) (hv : v < a.1) : nb (mxM a) p v = adj a p v := by
  unfold nb mxM
  rw [List.getElem?_map, List.getElem?_range hp]
  show ((List.range a.1).map fun v => adj a p v)[v]?.getD false = _
  rw [List.getElem?_map, List.getElem?_range hv]
  rfl
theorem nrM_at {a : Wb} {v : Nat} (hv : v < a.1) : (nrM a)[v]?.getD [] = (List.range a.1).filter fun u => adj a v u := by
  unfold nrM
  rw [List.getElem?_map, List.getElem?_range hv]
  rfl
theorem erM_at {x : Wb} {v : Nat} (hv : v < x.1) : (erM x)[v]?.getD [] = (List.range (v + 1)).filter fun u => adj x v u := by
  unfold erM
  rw [List.getElem?_map, List.getElem?_range hv]
  rfl
theorem lwr_mem {es : List (Nat × Nat)} {k u : Nat} : u ∈ lwr es k ↔ (u, k) ∈ es := by
  unfold lwr
  rw [List.mem_map]
  constructor
  · rintro ⟨⟨e1, e2⟩, he, rfl⟩
    rw [List.mem_filter, decide_eq_true_eq] at he
    have : e2 = k := he.2
    rw [← this]
    exact he.1
  · intro h
    exact ⟨(u, k), List.mem_filter.mpr ⟨h, decide_eq_true rfl⟩, rfl⟩
theorem part_at {row : List Nat} {v u : Nat} (h : u ≤ row.length) : (row ++ [v])[u]?.getD 0 = part row v u := by
  unfold part
  by_cases z : u < row.length
  · rw [dif_pos z, List.getElem?_append_left z, List.getElem?_eq_getElem z]; rfl
  · have e : u = row.length := by omega
    subst e
    rw [dif_neg z, List.getElem?_append_right (Nat.le_refl _), Nat.sub_self]; rfl
theorem part_lt {row : List Nat} {v u n : Nat} (hr : ∀ g ∈ row, g < n) (hv : v < n) : part row v u < n := by
  unfold part
  split
  · rename_i h; exact hr _ (List.getElem_mem h)
  · exact hv
theorem okC_eq {x a : Wb} (he : ∀ e ∈ x.2, e.1 ≤ e.2) {row : List Nat} {v : Nat} (hj : row.length < x.1) (hr : ∀ g ∈ row, g < a.1) (hv : v < a.1) :
    okC (mxM a) (lwr x.2 row.length) (row ++ [v]) v = fitM (erM x) (nrM a) row v := by
  unfold okC fitM fitB
  rw [erM_at hj, nrM_at hv, Bool.eq_iff_iff, List.all_eq_true, List.all_eq_true]
  have key : ∀ u, u ≤ row.length → (nb (mxM a) ((row ++ [v])[u]?.getD 0) v = decide (part row v u ∈ (List.range a.1).filter fun w => adj a v w)) := fun u hu => by
    have hp := part_lt (u := u) hr hv
    rw [part_at hu, nb_mxM hp hv, adj_symm]
    cases z : adj a v (part row v u) with
    | true => exact (decide_eq_true (List.mem_filter.mpr ⟨List.mem_range.mpr hp, z⟩)).symm
    | false => exact (decide_eq_false fun q => by rw [(List.mem_filter.mp q).2] at z; cases z).symm
  constructor
  · intro h u hu
    obtain ⟨h1, h2⟩ := List.mem_filter.mp hu
    have hu' : u ≤ row.length := by have := List.mem_range.mp h1; omega
    rw [← key u hu']
    refine h u (lwr_mem.mpr ?_)
    unfold adj at h2
    rw [Bool.or_eq_true, decide_eq_true_eq, decide_eq_true_eq] at h2
    rcases h2 with q | q
    · have := he _ q
      have e : u = row.length := by simp only at this; omega
      rw [e] at q ⊢
      exact q
    · exact q
  · intro h u hu
    have q := lwr_mem.mp hu
    have hu' : u ≤ row.length := he _ q
    rw [key u hu']
    refine h u (List.mem_filter.mpr ⟨List.mem_range.mpr (by omega), ?_⟩)
    unfold adj
    rw [Bool.or_eq_true, decide_eq_true_eq, decide_eq_true_eq]
    exact .inr q
theorem stepV_eq {near : List (List Bool)} {lw row : List Nat} : ∀ n v : Nat, stepV near lw row n v = (List.range' v n).flatMap fun v => if okC near lw (row ++ [v]) v then [row ++ [v]] else []
  | 0, v => rfl
  | n + 1, v => by rw [stepV, stepV_eq n (v + 1), List.range'_succ, List.flatMap_cons]
theorem rows_rest {x a : Wb} (he : ∀ e ∈ x.2, e.1 ≤ e.2) : ∀ j k : Nat, j + k = x.1 → rest (erM x) (nrM a) a.1 x.1 [] = (rowsM (mxM a) a.1 x.2 j).flatMap fun r => rest (erM x) (nrM a) a.1 k r
  | 0, k, h => by
    have : k = x.1 := by omega
    subst this
    show _ = ([[]] : List (List Nat)).flatMap _
    rw [List.flatMap_cons, List.flatMap_nil, List.append_nil]
  | j + 1, k, h => by
    rw [rows_rest he j (k + 1) (by omega), rowsM, stepR, List.flatMap_assoc]
    have hm := (rowsM_ok (near := mxM a) (m := a.1) (es := x.2) j).1
    have cong : ∀ (l : List (List Nat)) (f g : List Nat → List (List Nat)), (∀ r ∈ l, f r = g r) → l.flatMap f = l.flatMap g := fun l f g hh => by
      induction l with
      | nil => rfl
      | cons r l ih => rw [List.flatMap_cons, List.flatMap_cons, hh r (List.mem_cons_self ..), ih fun q hq => hh q (List.mem_cons_of_mem _ hq)]
    have congN : ∀ (l : List Nat) (f g : Nat → List (List Nat)), (∀ r ∈ l, f r = g r) → l.flatMap f = l.flatMap g := fun l f g hh => by
      induction l with
      | nil => rfl
      | cons r l ih => rw [List.flatMap_cons, List.flatMap_cons, hh r (List.mem_cons_self ..), ih fun q hq => hh q (List.mem_cons_of_mem _ hq)]
    refine cong _ _ _ fun r hr => ?_
    obtain ⟨r1, r2⟩ := hm r hr
    rw [rest, stepV_eq, ← List.range_eq_range', List.flatMap_assoc]
    refine congN _ _ _ fun v hv => ?_
    have hv' := List.mem_range.mp hv
    have e := okC_eq (x := x) (a := a) he (row := r) (v := v) (by omega) r2 hv'
    rw [r1] at e
    rw [e]
    cases fitM (erM x) (nrM a) r v with
    | true => rw [if_pos rfl, if_pos rfl, List.flatMap_cons, List.flatMap_nil, List.append_nil]
    | false => rw [if_neg Bool.false_ne_true, if_neg Bool.false_ne_true, List.flatMap_nil]
theorem cntL_eq {x a : Wb} (he : ∀ e ∈ x.2, e.1 ≤ e.2) : cntL x a = cntH x a := by
  unfold cntL cntH
  rw [rows_rest (x := x) (a := a) he x.1 0 (by omega)]
  have : ∀ l : List (List Nat), (l.flatMap fun r => rest (erM x) (nrM a) a.1 0 r) = l := fun l => by
    induction l with
    | nil => rfl
    | cons r l ih => rw [List.flatMap_cons, ih]; rfl
  rw [this]
/-! ### a quick way to count -/
def elmN (c : Nat) : List Nat → Bool
  | [] => false
  | x :: xs => match Nat.beq c x with
    | true => true
    | false => elmN c xs
def getN : List Nat → Nat → Nat → Nat
  | [], _, d => d
  | x :: _, 0, _ => x
  | _ :: xs, n + 1, d => getN xs n d
def fitN (nv row : List Nat) (v : Nat) : List Nat → Bool
  | [] => true
  | e :: es => match elmN (getN row e v) nv with
    | true => fitN nv row v es
    | false => false
def goV (F : Nat → Nat) (e row : List Nat) : Nat → List (List Nat) → Nat
  | _, [] => 0
  | v, nv :: ns => match fitN nv row v e with
    | true => F v + goV F e row (v + 1) ns
    | false => goV F e row (v + 1) ns
def cntR (near : List (List Nat)) : List (List Nat) → List Nat → Nat
  | [], _ => 1
  | e :: er, row => goV (fun v => cntR near er (row ++ [v])) e row 0 near
theorem elmN_eq (c : Nat) : ∀ l : List Nat, elmN c l = decide (c ∈ l)
  | [] => by simp [elmN]
  | x :: xs => by
    unfold elmN
    cases h : Nat.beq c x with
    | true => rw [Nat.eq_of_beq_eq_true h]; simp
    | false =>
      have := Nat.ne_of_beq_eq_false h
      simp only [elmN_eq c xs]
      simp [this]
theorem getN_eq : ∀ (row : List Nat) (e v : Nat), getN row e v = part row v e
  | [], e, v => by simp [getN, part]
  | x :: xs, 0, v => by simp [getN, part]
  | x :: xs, n + 1, v => by
    rw [getN, getN_eq xs n v]
    unfold part
    by_cases h : n < xs.length
    · rw [dif_pos h, dif_pos (by simpa using h)]; rfl
    · rw [dif_neg h, dif_neg (by simpa using h)]
theorem fitN_eq (nv row : List Nat) (v : Nat) : ∀ er : List Nat, fitN nv row v er = fitB er nv row v
  | [] => rfl
  | e :: es => by
    unfold fitN
    rw [elmN_eq, getN_eq]
    unfold fitB
    rw [List.all_cons]
    cases z : decide (part row v e ∈ nv) with
    | true => rw [Bool.true_and]; exact fitN_eq nv row v es
    | false => rw [Bool.false_and]
theorem goV_eq (F : Nat → Nat) (e row : List Nat) (near : List (List Nat)) : ∀ (ns : List (List Nat)) (v : Nat), near.drop v = ns → goV F e row v ns = ((List.range' v ns.length).map fun v => if fitB e (near[v]?.getD []) row v then F v else 0).sum
  | [], v, _ => rfl
  | nv :: ns, v, h => by
    have h1 : near[v]? = some nv := by
      have := congrArg List.head? h
      rwa [List.head?_drop] at this
    have h2 : near.drop (v + 1) = ns := by
      have := congrArg List.tail h
      rwa [List.tail_drop] at this
    rw [List.length_cons, List.range'_succ, List.map_cons, List.sum_cons, goV, goV_eq F e row near ns (v + 1) h2, h1, fitN_eq]
    show _ = (if fitB e nv row v then F v else 0) + _
    cases fitB e nv row v with
    | true => rfl
    | false => rw [if_neg Bool.false_ne_true, Nat.zero_add]
theorem flat_sum {α β : Type} (f : α → List β) : ∀ l : List α, (l.flatMap f).length = (l.map fun a => (f a).length).sum
  | [] => rfl
  | a :: l => by rw [List.flatMap_cons, List.length_append, flat_sum f l, List.map_cons, List.sum_cons]
theorem cntR_eq {ER near : List (List Nat)} {n : Nat} (hn : near.length = n) : ∀ (er : List (List Nat)) (row : List Nat), ER.drop row.length = er → cntR near er row = (rest ER near n er.length row).length
  | [], row, _ => rfl
  | e :: er, row, h => by
    have h1 : ER[row.length]? = some e := by
      have := congrArg List.head? h
      rwa [List.head?_drop] at this
    have h2 : ER.drop (row.length + 1) = er := by
      have := congrArg List.tail h
      rwa [List.tail_drop] at this
    rw [cntR, goV_eq _ _ _ near near 0 (List.drop_zero), List.length_cons, rest, flat_sum, hn, List.range_eq_range']
    congr 1
    refine List.map_congr_left fun v _ => ?_
    unfold fitM
    rw [h1]
    show (if fitB e (near[v]?.getD []) row v then _ else 0) = (if fitB e (near[v]?.getD []) row v then _ else []).length
    cases fitB e (near[v]?.getD []) row v with
    | true =>
      rw [if_pos rfl, if_pos rfl]
      exact cntR_eq hn er (row ++ [v]) (by rw [List.length_append, List.length_singleton]; exact h2)
    | false => rw [if_neg Bool.false_ne_true, if_neg Bool.false_ne_true]; rfl
theorem cntH_R (x a : Wb) : cntH x a = cntR (nrM a) (erM x) [] := by
  unfold cntH
  rw [cntR_eq (nrM_len a) (erM x) [] (List.drop_zero), erM_len]
end DL
end
section
set_option Elab.async false
set_option linter.all false
set_option warn.classDefReducibility false
set_option synthInstance.maxSize 1000000
set_option synthInstance.maxHeartbeats 4000000
set_option maxRecDepth 100000
set_option maxHeartbeats 4000000
/-! MK: facts by the kernel. Printed by genmk.py. -/
namespace DL
open PySem L2 GX
def nrS0 : List (List (List Nat)) := [[], [[]], [[], []], [[1], [0]], [[], [], []], [[1], [0], []], [[2], [], [0]], [[1, 2], [0], [0]], [[], [2], [1]], [[1], [0, 2], [1]], [[2], [2], [0, 1]], [[1, 2], [0, 2], [0, 1]], [[], [], [], []]]
def nrS1 : List (List (List Nat)) := [[[1], [0], [], []], [[2], [], [0], []], [[1, 2], [0], [0], []], [[], [2], [1], []], [[1], [0, 2], [1], []], [[2], [2], [0, 1], []], [[1, 2], [0, 2], [0, 1], []], [[3], [], [], [0]], [[1, 3], [0], [], [0]], [[2, 3], [], [0], [0]], [[1, 2, 3], [0], [0], [0]], [[3], [2], [1], [0]], [[1, 3], [0, 2], [1], [0]]]
def nrS2 : List (List (List Nat)) := [[[2, 3], [2], [0, 1], [0]], [[1, 2, 3], [0, 2], [0, 1], [0]], [[], [3], [], [1]], [[1], [0, 3], [], [1]], [[2], [3], [0], [1]], [[1, 2], [0, 3], [0], [1]], [[], [2, 3], [1], [1]], [[1], [0, 2, 3], [1], [1]], [[2], [2, 3], [0, 1], [1]], [[1, 2], [0, 2, 3], [0, 1], [1]], [[3], [3], [], [0, 1]], [[1, 3], [0, 3], [], [0, 1]], [[2, 3], [3], [0], [0, 1]]]
def nrS3 : List (List (List Nat)) := [[[1, 2, 3], [0, 3], [0], [0, 1]], [[3], [2, 3], [1], [0, 1]], [[1, 3], [0, 2, 3], [1], [0, 1]], [[2, 3], [2, 3], [0, 1], [0, 1]], [[1, 2, 3], [0, 2, 3], [0, 1], [0, 1]], [[], [], [3], [2]], [[1], [0], [3], [2]], [[2], [], [0, 3], [2]], [[1, 2], [0], [0, 3], [2]], [[], [2], [1, 3], [2]], [[1], [0, 2], [1, 3], [2]], [[2], [2], [0, 1, 3], [2]], [[1, 2], [0, 2], [0, 1, 3], [2]]]
def nrS4 : List (List (List Nat)) := [[[3], [], [3], [0, 2]], [[1, 3], [0], [3], [0, 2]], [[2, 3], [], [0, 3], [0, 2]], [[1, 2, 3], [0], [0, 3], [0, 2]], [[3], [2], [1, 3], [0, 2]], [[1, 3], [0, 2], [1, 3], [0, 2]], [[2, 3], [2], [0, 1, 3], [0, 2]], [[1, 2, 3], [0, 2], [0, 1, 3], [0, 2]], [[], [3], [3], [1, 2]], [[1], [0, 3], [3], [1, 2]], [[2], [3], [0, 3], [1, 2]], [[1, 2], [0, 3], [0, 3], [1, 2]], [[], [2, 3], [1, 3], [1, 2]]]
def nrS5 : List (List (List Nat)) := [[[1], [0, 2, 3], [1, 3], [1, 2]], [[2], [2, 3], [0, 1, 3], [1, 2]], [[1, 2], [0, 2, 3], [0, 1, 3], [1, 2]], [[3], [3], [3], [0, 1, 2]], [[1, 3], [0, 3], [3], [0, 1, 2]], [[2, 3], [3], [0, 3], [0, 1, 2]], [[1, 2, 3], [0, 3], [0, 3], [0, 1, 2]], [[3], [2, 3], [1, 3], [0, 1, 2]], [[1, 3], [0, 2, 3], [1, 3], [0, 1, 2]], [[2, 3], [2, 3], [0, 1, 3], [0, 1, 2]], [[1, 2, 3], [0, 2, 3], [0, 1, 3], [0, 1, 2]]]
def nrS : List (List (List Nat)) := nrS0 ++ nrS1 ++ nrS2 ++ nrS3 ++ nrS4 ++ nrS5
def erS : List (List (List Nat)) := [[], [[]], [[], []], [[], [0]], [[], [], []], [[], [0], []], [[], [0], [0]], [[], [0], [0, 1]], [[], [], [], []], [[], [0], [], []], [[], [0], [0], []], [[], [0], [0, 1], []], [[], [0], [0], [0]], [[], [], [1], [0]], [[], [0], [1], [0]], [[], [0], [0, 1], [0]], [[], [], [0, 1], [0, 1]], [[], [0], [0, 1], [0, 1]], [[], [0], [0, 1], [0, 1, 2]]]
theorem knrS : (wsS.map nrM) = nrS := by kernel_rfl
theorem kerS : (ctS.map erM) = erS := by kernel_rfl
theorem kJS0 : (nrS0.map fun nr => erS.map fun er => cntR nr er []) = tbS0 := by kernel_rfl
theorem kJS1 : (nrS1.map fun nr => erS.map fun er => cntR nr er []) = tbS1 := by kernel_rfl
theorem kJS2 : (nrS2.map fun nr => erS.map fun er => cntR nr er []) = tbS2 := by kernel_rfl
theorem kJS3 : (nrS3.map fun nr => erS.map fun er => cntR nr er []) = tbS3 := by kernel_rfl
theorem kJS4 : (nrS4.map fun nr => erS.map fun er => cntR nr er []) = tbS4 := by kernel_rfl
theorem kJS5 : (nrS5.map fun nr => erS.map fun er => cntR nr er []) = tbS5 := by kernel_rfl
theorem kJS : (nrS.map fun nr => erS.map fun er => cntR nr er []) = tbS := by
  unfold nrS tbS
  simp only [List.map_append]
  rw [kJS0, kJS1, kJS2, kJS3, kJS4, kJS5]
theorem tbS_H : (wsS.map fun a => ctS.map fun x => cntH x a) = tbS := by
  rw [← kJS, ← knrS, ← kerS, List.map_map]
  refine List.map_congr_left fun a _ => ?_
  show _ = (ctS.map erM).map fun er => cntR (nrM a) er []
  rw [List.map_map]
  exact List.map_congr_left fun x _ => cntH_R x a
def nrL0 : List (List (List Nat)) := [[], [[]], [[0]], [[], []], [[0], []], [[1], [0]], [[0, 1], [0]], [[], [1]], [[0], [1]], [[1], [0, 1]], [[0, 1], [0, 1]], [[], [], []], [[0], [], []]]
def nrL1 : List (List (List Nat)) := [[[1], [0], []], [[0, 1], [0], []], [[], [1], []], [[0], [1], []], [[1], [0, 1], []], [[0, 1], [0, 1], []], [[2], [], [0]], [[0, 2], [], [0]], [[1, 2], [0], [0]], [[0, 1, 2], [0], [0]], [[2], [1], [0]], [[0, 2], [1], [0]], [[1, 2], [0, 1], [0]]]
def nrL2 : List (List (List Nat)) := [[[0, 1, 2], [0, 1], [0]], [[], [2], [1]], [[0], [2], [1]], [[1], [0, 2], [1]], [[0, 1], [0, 2], [1]], [[], [1, 2], [1]], [[0], [1, 2], [1]], [[1], [0, 1, 2], [1]], [[0, 1], [0, 1, 2], [1]], [[2], [2], [0, 1]], [[0, 2], [2], [0, 1]], [[1, 2], [0, 2], [0, 1]], [[0, 1, 2], [0, 2], [0, 1]]]
def nrL3 : List (List (List Nat)) := [[[2], [1, 2], [0, 1]], [[0, 2], [1, 2], [0, 1]], [[1, 2], [0, 1, 2], [0, 1]], [[0, 1, 2], [0, 1, 2], [0, 1]], [[], [], [2]], [[0], [], [2]], [[1], [0], [2]], [[0, 1], [0], [2]], [[], [1], [2]], [[0], [1], [2]], [[1], [0, 1], [2]], [[0, 1], [0, 1], [2]], [[2], [], [0, 2]]]
def nrL4 : List (List (List Nat)) := [[[0, 2], [], [0, 2]], [[1, 2], [0], [0, 2]], [[0, 1, 2], [0], [0, 2]], [[2], [1], [0, 2]], [[0, 2], [1], [0, 2]], [[1, 2], [0, 1], [0, 2]], [[0, 1, 2], [0, 1], [0, 2]], [[], [2], [1, 2]], [[0], [2], [1, 2]], [[1], [0, 2], [1, 2]], [[0, 1], [0, 2], [1, 2]], [[], [1, 2], [1, 2]], [[0], [1, 2], [1, 2]]]
def nrL5 : List (List (List Nat)) := [[[1], [0, 1, 2], [1, 2]], [[0, 1], [0, 1, 2], [1, 2]], [[2], [2], [0, 1, 2]], [[0, 2], [2], [0, 1, 2]], [[1, 2], [0, 2], [0, 1, 2]], [[0, 1, 2], [0, 2], [0, 1, 2]], [[2], [1, 2], [0, 1, 2]], [[0, 2], [1, 2], [0, 1, 2]], [[1, 2], [0, 1, 2], [0, 1, 2]], [[0, 1, 2], [0, 1, 2], [0, 1, 2]]]
def nrL : List (List (List Nat)) := nrL0 ++ nrL1 ++ nrL2 ++ nrL3 ++ nrL4 ++ nrL5
def erL : List (List (List Nat)) := [[], [[]], [[0]], [[], []], [[0], []], [[], [0]], [[0], [0]], [[0], [1]], [[0], [0, 1]], [[], [], []], [[0], [], []], [[], [0], []], [[0], [0], []], [[0], [1], []], [[0], [0, 1], []], [[], [0], [0]], [[0], [0], [0]], [[], [1], [0]], [[0], [1], [0]], [[], [0, 1], [0]], [[0], [0, 1], [0]], [[], [0], [0, 1]], [[0], [0], [0, 1]], [[0], [1], [0, 1]], [[0], [0, 1], [0, 1]], [[0], [1], [2]], [[0], [0, 1], [2]], [[0], [0, 1], [0, 2]], [[0], [0, 1], [0, 1, 2]]]
theorem knrL : (wsL.map nrM) = nrL := by kernel_rfl
theorem kerL : (ctL.map erM) = erL := by kernel_rfl
theorem kJL0 : (nrL0.map fun nr => erL.map fun er => cntR nr er []) = tbL0 := by kernel_rfl
theorem kJL1 : (nrL1.map fun nr => erL.map fun er => cntR nr er []) = tbL1 := by kernel_rfl
theorem kJL2 : (nrL2.map fun nr => erL.map fun er => cntR nr er []) = tbL2 := by kernel_rfl
theorem kJL3 : (nrL3.map fun nr => erL.map fun er => cntR nr er []) = tbL3 := by kernel_rfl
theorem kJL4 : (nrL4.map fun nr => erL.map fun er => cntR nr er []) = tbL4 := by kernel_rfl
theorem kJL5 : (nrL5.map fun nr => erL.map fun er => cntR nr er []) = tbL5 := by kernel_rfl
theorem kJL : (nrL.map fun nr => erL.map fun er => cntR nr er []) = tbL := by
  unfold nrL tbL
  simp only [List.map_append]
  rw [kJL0, kJL1, kJL2, kJL3, kJL4, kJL5]
theorem tbL_H : (wsL.map fun a => ctL.map fun x => cntH x a) = tbL := by
  rw [← kJL, ← knrL, ← kerL, List.map_map]
  refine List.map_congr_left fun a _ => ?_
  show _ = (ctL.map erM).map fun er => cntR (nrM a) er []
  rw [List.map_map]
  exact List.map_congr_left fun x _ => cntH_R x a
section
variable (K : PySem.W.Frag) (C : Addr)
theorem kNS : (wsS.map fun a => fNR K C [toD a]) = wsS.map fun a => .ok (.list (lL (nrM a))) := by kernel_rfl
theorem kMS : (wsS.map fun a => fMx K C [toD a]) = wsS.map fun a => .ok (.list (bbL (mxM a))) := by kernel_rfl
theorem kES (a : PyData) : (ctS.map fun x => (inEar K C (fNR K C)).run [.pu (toD x), .pu a, .any, .any, .any, .any, .any, .any, .any]) = ctS.map fun x => .ok (.list (lL (erM x))) := by kernel_rfl
theorem kNL : (wsL.map fun a => fNR K C [toD a]) = wsL.map fun a => .ok (.list (lL (nrM a))) := by kernel_rfl
theorem kML : (wsL.map fun a => fMx K C [toD a]) = wsL.map fun a => .ok (.list (bbL (mxM a))) := by kernel_rfl
theorem kEL (a : PyData) : (ctL.map fun x => (inEar K C (fNR K C)).run [.pu (toD x), .pu a, .any, .any, .any, .any, .any, .any, .any]) = ctL.map fun x => .ok (.list (lL (erM x))) := by kernel_rfl
end
end DL
end
section
set_option Elab.async false
set_option linter.all false
set_option maxRecDepth 100000
set_option maxHeartbeats 4000000
/-! MX: the counts over the tables. -/
namespace DL
open PySem L2 GX
theorem map_in {α β : Type} {l : List α} {f : α → β} {m : List β} (h : l.map f = m) {a : α} (ha : a ∈ l) : f a ∈ m := h ▸ List.mem_map.mpr ⟨a, ha, rfl⟩
theorem tbS_lt : (tbS.all fun r => r.all fun n => decide (n < 90000)) = true := by kernel_rfl
theorem tbL_lt : (tbL.all fun r => r.all fun n => decide (n < 90000)) = true := by kernel_rfl
def okX (x : Wb) : Bool := decide (x.1 ≤ 4) && (decide (x.2.length < 1000) && x.2.all fun e => decide (e.1 ≤ e.2))
theorem ctS_ok : ctS.all okX = true := by kernel_rfl
theorem ctL_ok : ctL.all okX = true := by kernel_rfl
theorem wsS_4 : (wsS.all fun a => decide (a.1 ≤ 4)) = true := by kernel_rfl
theorem wsL_4 : (wsL.all fun a => decide (a.1 ≤ 4)) = true := by kernel_rfl
theorem turns_ok : ([0, 1, 2, 3, 4].all fun a => [0, 1, 2, 3, 4].all fun x => decide (turns a x < 900000)) = true := by kernel_rfl
theorem le4 {n : Nat} (h : n ≤ 4) : n ∈ [0, 1, 2, 3, 4] := by
  have : n = 0 ∨ n = 1 ∨ n = 2 ∨ n = 3 ∨ n = 4 := by omega
  rcases this with z | z | z | z | z <;> rw [z] <;> decide
def isOk : Rn PyData → Bool
  | .ok _ => true
  | _ => false
section
variable (K : PySem.W.Frag) (C : Addr)
theorem maps_ok : ([0, 1, 2, 3, 4].all fun x : Nat => [0, 1, 2, 3, 4].all fun a : Nat => isOk (fMaps K C [.int (x : Int), .int (a : Int), .int 4096])) = true := by kernel_rfl
/-- what the counts are -/
structure CtF (ws ct : List Wb) : Prop where
  homs : ∀ a ∈ ws, ∀ x ∈ ct, fHoms K C [toD x, toD a] = .ok (.int (cntH x a : Int))
  lcnt : ∀ a ∈ ws, ∀ x ∈ ct, fLcnt K C [toD x, .list (bbL (mxM a))] = .ok (.int (cntH x a : Int))
  mx : ∀ a ∈ ws, fMx K C [toD a] = .ok (.list (bbL (mxM a)))
  le : ∀ a ∈ ws, a.1 ≤ 4
theorem ctF_of {ws ct : List Wb} {tb : List (List Nat)} (hH : (ws.map fun a => ct.map fun x => cntH x a) = tb)
    (hlt : (tb.all fun r => r.all fun n => decide (n < 90000)) = true) (hX : ct.all okX = true) (hW : (ws.all fun a => decide (a.1 ≤ 4)) = true)
    (hN : (ws.map fun a => fNR K C [toD a]) = ws.map fun a => .ok (.list (lL (nrM a))))
    (hM : (ws.map fun a => fMx K C [toD a]) = ws.map fun a => .ok (.list (bbL (mxM a))))
    (hE : ∀ a : PyData, (ct.map fun x => (inEar K C (fNR K C)).run [.pu (toD x), .pu a, .any, .any, .any, .any, .any, .any, .any]) = ct.map fun x => .ok (.list (lL (erM x)))) : CtF K C ws ct := by
  have xs : ∀ x ∈ ct, x.1 ≤ 4 ∧ x.2.length < 1000 ∧ ∀ e ∈ x.2, e.1 ≤ e.2 := fun x hx => by
    have h := List.all_eq_true.mp hX x hx
    unfold okX at h
    rw [Bool.and_eq_true, Bool.and_eq_true] at h
    exact ⟨of_decide_eq_true h.1, of_decide_eq_true h.2.1, fun e he => of_decide_eq_true (List.all_eq_true.mp h.2.2 e he)⟩
  have as : ∀ a ∈ ws, a.1 ≤ 4 := fun a ha => of_decide_eq_true (List.all_eq_true.mp hW a ha)
  have lt : ∀ a ∈ ws, ∀ x ∈ ct, cntH x a < 90000 := fun a ha x hx => by
    have h1 : (ct.map fun x => cntH x a) ∈ tb := map_in hH ha
    have h2 : cntH x a ∈ ct.map fun x => cntH x a := List.mem_map.mpr ⟨x, hx, rfl⟩
    exact of_decide_eq_true (List.all_eq_true.mp (List.all_eq_true.mp hlt _ h1) _ h2)
  refine ⟨fun a ha x hx => ?_, fun a ha x hx => ?_, fun a ha => List.map_inj_left.mp hM a ha, as⟩
  · have m := List.all_eq_true.mp (List.all_eq_true.mp (maps_ok K C) x.1 (le4 (xs x hx).1)) a.1 (le4 (as a ha))
    cases e : fMaps K C [.int (x.1 : Int), .int (a.1 : Int), .int 4096] with
    | ok dm =>
      exact homs_eq e (List.map_inj_left.mp (hE (toD a)) x hx) (List.map_inj_left.mp hN a ha) (by have := (xs x hx).1; omega) (lt a ha x hx)
        (of_decide_eq_true (List.all_eq_true.mp (List.all_eq_true.mp turns_ok a.1 (le4 (as a ha))) x.1 (le4 (xs x hx).1)))
    | ex n => rw [e] at m; cases m
    | bad => rw [e] at m; cases m
  · rw [lcnt_eq (by have := as a ha; omega) (xs x hx).2.2 (xs x hx).2.1 (xs x hx).1]
    rw [cntL_eq (xs x hx).2.2]
theorem ctF_S : CtF K C wsS ctS := ctF_of K C tbS_H tbS_lt ctS_ok wsS_4 (kNS K C) (kMS K C) (kES K C)
theorem ctF_L : CtF K C wsL ctL := ctF_of K C tbL_H tbL_lt ctL_ok wsL_4 (kNL K C) (kML K C) (kEL K C)
end
end DL
end
section
set_option Elab.async false
set_option linter.all false
set_option maxRecDepth 100000
set_option maxHeartbeats 4000000
/-! RRA: the equations of RR, applied. -/
namespace DL
open PySem L2 GX TLX
section
variable {C : Addr} {EX : XK} {te ta tb tk : TE} {tA tB' : TA} {tt tu : TT} {r : R2} {K : PySem.W.Frag} {ts us : TS} {δ : List Sl} {wi wi1 : TI} {g g1 : TG} {vs vs1 : List Nat} {tt1 : TT} {tg th : TGn} {es : List PyData}
theorem run_varA {i : Nat} : (reVar (C := C) (EX := EX) i).run δ = (match δ[i]? with | some (.pu d) => .ok d | _ => .bad) := rfl
theorem run_cA {v : V} : (reC (C := C) (EX := EX) v).run δ = ofO (vD v) := rfl
theorem run_opA [a : RE C EX ta] [b : RE C EX tb] [o : RO r] : (reOp (a := a) (b := b) (o := o)).run δ = (a.run δ).bd fun d1 => (b.run δ).bd fun d2 => ofO (o.run d1 d2) := rfl
theorem run_cbA {rb : List V → Hp → VK → Prop} [a : RA C EX tA] [o : RB rb] : (reCB (a := a) (o := o)).run δ = (a.run δ).bd fun ds => ofO (o.run ds) := rfl
theorem run_anilA : (raNil (C := C) (EX := EX)).run δ = .ok [] := rfl
theorem run_aconsA [a : RE C EX te] [b : RA C EX tA] : (raCons (a := a) (b := b)).run δ = (a.run δ).bd fun d => (b.run δ).bd fun ds => .ok (d :: ds) := rfl
theorem run_tupA [a : RA C EX tA] : (reTup (a := a)).run δ = (a.run δ).bd fun ds => if ds.length ≤ 100000 then .ok (.tuple ds) else .bad := rfl
theorem run_lstA [a : RA C EX tA] : (reLst (a := a)).run δ = (a.run δ).bd fun ds => if ds.length ≤ 100000 then .ok (.list ds) else .bad := rfl
theorem run_call0A {n : Nat} {f : PF} {dvs : List V} [a : RA C EX tA] : (reCall0 (C := C) (EX := EX) (n := n) (f := f) (dvs := dvs) (a := a)).run δ = okR ((a.run δ).bd fun ds => runD n f dvs ds) := rfl
theorem run_callA {n : Nat} {f : PF} {dvs : List V} [a : RA C EX tA] : (reCall (C := C) (EX := EX) (n := n) (f := f) (dvs := dvs) (a := a)).run δ = (a.run δ).bd fun ds => runD n f dvs ds := rfl
theorem run_callNA {n l1 l2 : Nat} {f : PF} [a : RA C EX tA] [b : RA C EX tB'] : (reCallN (n := n) (l1 := l1) (l2 := l2) (f := f) (a := a) (b := b)).run δ = (a.run δ).bd fun ds => (b.run δ).bd fun es => if ds.length = l1 ∧ es.length = l2 then runF n f (ds ++ es) else .bad := rfl
theorem run_callN0A {n l1 l2 : Nat} {f : PF} [a : RA C EX tA] [b : RA C EX tB'] : (reCallN0 (n := n) (l1 := l1) (l2 := l2) (f := f) (a := a) (b := b)).run δ = okR ((a.run δ).bd fun ds => (b.run δ).bd fun es => if ds.length = l1 ∧ es.length = l2 then runF n f (ds ++ es) else .bad) := rfl
theorem run_listGA {n : Nat} {f : PG'} {dvs : List V} [a : RA C EX tA] : (reListG (C := C) (EX := EX) (n := n) (f := f) (dvs := dvs) (a := a)).run δ = (a.run δ).bd fun ds => runGn n f dvs ds := rfl
theorem run_listGNA {n l1 l2 : Nat} {f : PG'} [a : RA C EX tA] [b : RA C EX tB'] : (reListGN (C := C) (EX := EX) (n := n) (l1 := l1) (l2 := l2) (f := f) (a := a) (b := b)).run δ = (a.run δ).bd fun ds => (b.run δ).bd fun es => if ds.length = l1 ∧ es.length = l2 ∧ (ds ++ es).length = n then lstG (f (ds ++ es)) else .bad := rfl
theorem run_testA [a : RE C EX te] : (rtTest (a := a)).run δ = (a.run δ).bd toB := rfl
theorem run_tbA [a : RE C EX te] : (rtB (a := a)).run δ = (a.run δ).bd toB := rfl
theorem run_truA [a : RE C EX te] : (rtTru (K := K) (a := a)).run δ = (a.run δ).bd fun d => ofO (truD d) := rfl
theorem run_yesA : (rtYes (C := C) (EX := EX)).run δ = .ok true := rfl
theorem run_tandA [a : RT C EX tt] [b : RT C EX tu] : (rtAnd (a := a) (b := b)).run δ = (a.run δ).bd fun x => if x then b.run δ else .ok false := rfl
theorem run_torA [a : RT C EX tt] [b : RT C EX tu] : (rtOr (a := a) (b := b)).run δ = (a.run δ).bd fun x => if x then .ok true else b.run δ := rfl
theorem run_tnotA [a : RT C EX tt] : (rtNot (a := a)).run δ = (a.run δ).bd fun x => .ok (!x) := rfl
theorem run_andVA [a : RE C EX ta] [b : RE C EX tb] : (reAndV (a := a) (b := b)).run δ = ((a.run δ).bd toB).bd fun x => if x then bB ((b.run δ).bd toB) else .ok (.bool false) := rfl
theorem run_orVA [a : RE C EX ta] [b : RE C EX tb] : (reOrV (a := a) (b := b)).run δ = ((a.run δ).bd toB).bd fun x => if x then .ok (.bool true) else bB ((b.run δ).bd toB) := rfl
theorem run_notVA [a : RE C EX ta] : (reNotV (a := a)).run δ = ((a.run δ).bd toB).bd fun x => .ok (.bool (!x)) := rfl
theorem run_ifEA [c : RT C EX tt] [a : RE C EX ta] [b : RE C EX tb] : (reIf (c := c) (a := a) (b := b)).run δ = (c.run δ).bd fun x => if x then a.run δ else b.run δ := rfl
theorem run_slA {tl th : TO} [a : RE C EX te] [b : RP C EX tl] [c : RP C EX th] : (reSl (K := K) (a := a) (b := b) (c := c)).run δ = (a.run δ).bd fun d => slD d (b.run δ) (c.run δ) := rfl
theorem run_pnoA : (rpNo (C := C) (EX := EX)).run δ = some none := rfl
theorem run_psomeA [a : RE C EX te] : (rpSome (a := a)).run δ = toI (a.run δ) := rfl
theorem run_ilistA [a : RE C EX te] : (riList (K := K) (a := a)).run δ = toL (a.run δ) := rfl
theorem run_itupA [a : RE C EX te] : (riTup (K := K) (a := a)).run δ = toT (a.run δ) := rfl
theorem run_ienumA [a : RE C EX te] : (riEnum (K := K) (a := a)).run δ = (toL (a.run δ)).map (enumD 0) := rfl
theorem run_rng1A [a : RA C EX tA] : (riRng1 (a := a)).run δ = rng1 (runA a.run δ) := rfl
theorem run_rng2A [a : RA C EX tA] : (riRng2 (a := a)).run δ = rng2 (runA a.run δ) := rfl
theorem run_lcA [i : RI C EX wi] [gg : RGw g vs] [t : RT C EX tt] [e : RE C EX te] : (reLc (i := i) (gg := gg) (t := t) (e := e)).run δ = lcAll (i.run δ) (gg.run (wipeA δ vs)) t.run e.run := rfl
theorem run_nextA : (rsNext (C := C) (EX := EX)).run δ = .nx δ := rfl
theorem run_seqA [a : RS C EX ts] [b : RS C EX us] : (rsSeq (a := a) (b := b)).run δ = seqR (a.run δ) b.run := rfl
theorem run_asgA {i : Nat} [a : RE C EX te] : (rsAsg (i := i) (a := a)).run δ = asgR i (runW a.run δ) := rfl
theorem run_ownA {i : Nat} [a : RA C EX tA] : (rsOwn (i := i) (a := a)).run δ = ownR i δ (a.run δ) := rfl
theorem run_appendA {i : Nat} [a : RE C EX te] : (rsAppend (K := K) (i := i) (a := a)).run δ = appR i δ (owAt δ i) (runS a.run δ) := rfl
theorem run_extendA {i : Nat} [a : RE C EX te] : (rsExtend (K := K) (i := i) (a := a)).run δ = extR i δ (owAt δ i) (a.run δ) := rfl
theorem run_dropA [a : RE C EX te] : (rsDrop (a := a)).run δ = dropR δ (runS a.run δ) := rfl
theorem run_retA [a : RE C EX te] : (rsRet (a := a)).run δ = retR (runW a.run δ) := rfl
theorem run_retNA : (rsRetN (C := C) (EX := EX)).run δ = .rt .none := rfl
theorem run_ifA [c : RT C EX tt] [a : RS C EX ts] [b : RS C EX us] : (rsIf (c := c) (a := a) (b := b)).run δ = ifR (runT c.run δ) (fun _ => a.run δ) (fun _ => b.run δ) := rfl
theorem run_forA [i : RI C EX wi] [gg : RG g] [b : RS C EX ts] : (rsFor (i := i) (gg := gg) (b := b)).run δ = forA (i.run δ) gg.run b.run δ := rfl
theorem run_raiseA [a : RA C EX tA] : (rsRaise (a := a)).run δ = raiseR (a.run δ) := rfl
end
end DL
end
section
set_option Elab.async false
set_option linter.all false
set_option warn.classDefReducibility false
set_option synthInstance.maxSize 1000000
set_option synthInstance.maxHeartbeats 4000000
set_option maxRecDepth 100000
set_option maxHeartbeats 4000000
/-! MB: _law_code by its mirror; the codes of a web under all its renamings. -/
namespace DL
open PySem L2 GX
def permP (n : Nat) : Nat → List (List Nat)
  | 0 => [[]]
  | k + 1 => (permP n k).flatMap fun r => ((List.range n).filter fun x => !(r.contains x)).map fun x => r ++ [x]
def codB (r : List Nat) (c : Nat) (e : Nat × Nat) : Nat := c + 2 ^ (max (r[e.1]?.getD 0) (r[e.2]?.getD 0) * (max (r[e.1]?.getD 0) (r[e.2]?.getD 0) + 1) / 2 + min (r[e.1]?.getD 0) (r[e.2]?.getD 0))
def codU (a : Wb) (r : List Nat) : Nat := a.2.foldl (codB r) 0
def codM (a : Wb) : Nat := codU a (List.range a.1)
def cosM (a : Wb) : List Nat := (permP a.1 a.1).map (codU a)
abbrev eCb (K : PySem.W.Frag) (C : Addr) : TE := (tCall (spF C 2 (fLcode K C)) [] E0 (tCons (tVar 1) (tCons (tLc (iRng1 (tCons (tOp (rIxT K) (tVar 1) (tC (.int 0))) tNil)) (gName 3) tYes (tVar 3) [3]) tNil)))
abbrev eCs (K : PySem.W.Frag) (C : Addr) : TE := (tLc (iList K (tCall (spF C 1 (fPerm K C)) [] E0 (tCons (tOp (rIxT K) (tVar 0) (tC (.int 0))) tNil))) (gName 4) tYes (tCall (spF C 2 (fLcode K C)) [] E0 (tCons (tVar 0) (tCons (tVar 4) tNil))) [4])
def inCb (K : PySem.W.Frag) (C : Addr) : RE C E0 (eCb K C) := inferInstance
def inCs (K : PySem.W.Frag) (C : Addr) : RE C E0 (eCs K C) := inferInstance
def cdI (n : Nat) : PyData := .int (n : Int)
theorem mxR (x y : Nat) : rbMax.run [.int (x : Int), .int (y : Int)] = some (.int ((max x y : Nat) : Int)) := by
  show some (PyData.int (if (y : Int) > (x : Int) then (y : Int) else (x : Int))) = _
  split <;> congr 2 <;> omega
theorem mnR (x y : Nat) : rbMin.run [.int (x : Int), .int (y : Int)] = some (.int ((min x y : Nat) : Int)) := by
  show some (PyData.int (if (y : Int) < (x : Int) then (y : Int) else (x : Int))) = _
  split <;> congr 2 <;> omega
section
variable {K : PySem.W.Frag} {C : Addr}
theorem op_ok {ta tb : TE} {r : R2} {δ : List Sl} {d1 d2 d : PyData} [a : RE C E0 ta] [b : RE C E0 tb] [o : RO r] (h1 : RE.run C E0 ta δ = .ok d1) (h2 : RE.run C E0 tb δ = .ok d2) (h3 : o.run d1 d2 = some d) : RE.run C E0 (tOp r ta tb) δ = .ok d := by
  rw [run_opA, h1, bd_ok, h2, bd_ok, h3]; rfl
theorem asg_ok {te : TE} {i : Nat} {δ : List Sl} {d : PyData} [a : RE C E0 te] (h : RE.run C E0 te δ = .ok d) : RS.run C E0 (tAsg te (gName i)) δ = .nx (δ.set i (.pu d)) := by
  rw [run_asgA, runW, h]; rfl
theorem run_cI {δ : List Sl} (i : Int) : RE.run C E0 (tC (.int i)) δ = .ok (.int i) := rfl
theorem step {s k : TS} {δ δ' : List Sl} [a : RS C E0 s] [b : RS C E0 k] (h : RS.run C E0 s δ = .nx δ') : RS.run C E0 (tSeq s k) δ = RS.run C E0 k δ' := by
  rw [run_seqA, h, seqR_nx]
abbrev lcB (K : PySem.W.Frag) : TS := (tSeq (tAsg (tCB rMin2 (tCons (tOp (rIxL K) (tVar 1) (tOp (rIxT K) (tVar 3) (tC (.int 0)))) (tCons (tOp (rIxL K) (tVar 1) (tOp (rIxT K) (tVar 3) (tC (.int 1)))) tNil))) (gName 4)) (tSeq (tAsg (tCB rMax2 (tCons (tOp (rIxL K) (tVar 1) (tOp (rIxT K) (tVar 3) (tC (.int 0)))) (tCons (tOp (rIxL K) (tVar 1) (tOp (rIxT K) (tVar 3) (tC (.int 1)))) tNil))) (gName 5)) (tSeq (tAsg (tOp (rI0 fun i j => .int (i + j)) (tVar 2) (tOp (rI CPow fun i j => .int (i * 2 ^ j.toNat)) (tC (.int 1)) (tOp (rI0 fun i j => .int (i + j)) (tOp (rI CDiv fun i j => .int (i / j)) (tOp (rI CMul fun i j => .int (i * j)) (tVar 5) (tOp (rI0 fun i j => .int (i + j)) (tVar 5) (tC (.int 1)))) (tC (.int 2))) (tVar 4)))) (gName 2)) tNext)))
theorem lcB_ok {w : Sl} {r : List Nat} {e : Nat × Nat} {c : Nat} {s4 s5 : Sl} (h1 : e.1 < r.length) (h2 : e.2 < r.length) (hr : ∀ g ∈ r, g < 100) :
    ∃ s4' s5', RS.run C E0 (lcB K) [w, .pu (.list (iL r)), .pu (.int (c : Int)), .pu (eP e), s4, s5] = .nx [w, .pu (.list (iL r)), .pu (.int (codB r c e : Int)), .pu (eP e), s4', s5'] := by
  have i0 : (roIxT (K := K)).run (eP e) (.int 0) = some (.int (e.1 : Int)) := rfl
  have i1 : (roIxT (K := K)).run (eP e) (.int 1) = some (.int (e.2 : Int)) := rfl
  have j1 : (roIxL (K := K)).run (.list (iL r)) (.int (e.1 : Int)) = some (.int (r[e.1] : Nat)) := by rw [run_ixL, ixD_iL h1]
  have j2 : (roIxL (K := K)).run (.list (iL r)) (.int (e.2 : Int)) = some (.int (r[e.2] : Nat)) := by rw [run_ixL, ixD_iL h2]
  have b1 := hr _ (List.getElem_mem h1)
  have b2 := hr _ (List.getElem_mem h2)
  have ec : codB r c e = c + 2 ^ (max r[e.1] r[e.2] * (max r[e.1] r[e.2] + 1) / 2 + min r[e.1] r[e.2]) := by
    unfold codB
    rw [List.getElem?_eq_getElem h1, List.getElem?_eq_getElem h2]
    rfl
  rw [ec]
  generalize r[e.1] = x at *
  generalize r[e.2] = y at *
  have hM : max x y < 100 := by omega
  have hL : min x y < 100 := by omega
  have mr := mxR x y
  have nr := mnR x y
  generalize max x y = H at *
  generalize min x y = L at *
  have hH : H * (H + 1) ≤ 99 * 100 := Nat.mul_le_mul (by omega) (by omega)
  have cm : CMul (H : Int) ((H : Int) + 1) := .inl ⟨by omega, by omega⟩
  have cd : CDiv ((H : Int) * ((H : Int) + 1)) 2 := ⟨by decide, by decide⟩
  have e1 : (H : Int) * ((H : Int) + 1) = ((H * (H + 1) : Nat) : Int) := by rw [Int.natCast_mul, Int.natCast_add]; rfl
  obtain ⟨Z, hZ⟩ : ∃ Z, Z = H * (H + 1) / 2 + L := ⟨_, rfl⟩
  have ez : (H : Int) * ((H : Int) + 1) / 2 + (L : Int) = (Z : Int) := by
    rw [e1, hZ]
    generalize H * (H + 1) = q
    omega
  have hq : Z ≤ 1000000 := by
    rw [hZ]
    generalize H * (H + 1) = q at hH
    omega
  rw [← hZ]
  have hp : (roI CPow (fun i j => V.int (i * 2 ^ j.toNat))).run (.int 1) (.int (Z : Int)) = some (.int ((2 ^ Z : Nat) : Int)) := by
    rw [run_I, if_pos (show CPow 1 (Z : Int) from ⟨Int.natCast_nonneg _, by omega, by decide⟩), vD_int, Int.toNat_natCast, Int.one_mul]
    simp
  have hs : (c : Int) + ((2 ^ Z : Nat) : Int) = ((c + 2 ^ Z : Nat) : Int) := (Int.natCast_add _ _).symm
  generalize 2 ^ Z = W at hp hs ⊢
  refine ⟨.pu (.int (L : Int)), .pu (.int (H : Int)), ?_⟩
  refine (step (δ' := [w, .pu (.list (iL r)), .pu (.int (c : Int)), .pu (eP e), .pu (.int (L : Int)), s5]) ?_).trans ?_
  · simp only [run_asgA, runW, run_cbA, run_opA, run_aconsA, run_anilA, run_varA, run_cA, List.getElem?_cons_zero, List.getElem?_cons_succ, bd_ok, ofO, vD, i0, i1, j1, j2, nr, asgR, List.set_cons_zero, List.set_cons_succ]
  refine (step (δ' := [w, .pu (.list (iL r)), .pu (.int (c : Int)), .pu (eP e), .pu (.int (L : Int)), .pu (.int (H : Int))]) ?_).trans ?_
  · simp only [run_asgA, runW, run_cbA, run_opA, run_aconsA, run_anilA, run_varA, run_cA, List.getElem?_cons_zero, List.getElem?_cons_succ, bd_ok, ofO, vD, i0, i1, j1, j2, mr, asgR, List.set_cons_zero, List.set_cons_succ]
  refine (step (δ' := [w, .pu (.list (iL r)), .pu (.int ((c + W : Nat) : Int)), .pu (eP e), .pu (.int (L : Int)), .pu (.int (H : Int))]) ?_).trans rfl
  generalize hδ : ([w, .pu (.list (iL r)), .pu (.int (c : Int)), .pu (eP e), .pu (.int (L : Int)), .pu (.int (H : Int))] : List Sl) = δ
  have v2 : RE.run C E0 (tVar 2) δ = .ok (.int (c : Int)) := by rw [← hδ]; rfl
  have v4 : RE.run C E0 (tVar 4) δ = .ok (.int (L : Int)) := by rw [← hδ]; rfl
  have v5 : RE.run C E0 (tVar 5) δ = .ok (.int (H : Int)) := by rw [← hδ]; rfl
  have o1 : (roI CMul (fun i j => V.int (i * j))).run (.int (H : Int)) (.int ((H : Int) + 1)) = some (.int ((H : Int) * ((H : Int) + 1))) := by rw [run_I, if_pos cm, vD_int]
  have o2 : (roI CDiv (fun i j => V.int (i / j))).run (.int ((H : Int) * ((H : Int) + 1))) (.int 2) = some (.int ((H : Int) * ((H : Int) + 1) / 2)) := by rw [run_I, if_pos cd, vD_int]
  have o3 : (roI0 (fun i j => V.int (i + j))).run (.int ((H : Int) * ((H : Int) + 1) / 2)) (.int (L : Int)) = some (.int (Z : Int)) := by rw [run_I0, vD_int, ez]
  have o4 : (roI0 (fun i j => V.int (i + j))).run (.int (c : Int)) (.int (W : Int)) = some (.int ((c + W : Nat) : Int)) := by rw [run_I0, vD_int, hs]
  have o5 : (roI0 (fun i j => V.int (i + j))).run (.int (H : Int)) (.int 1) = some (.int ((H : Int) + 1)) := by rw [run_I0, vD_int]
  have hv := op_ok v2 (op_ok (run_cI (δ := δ) 1) (op_ok (op_ok (op_ok v5 (op_ok v5 (run_cI (δ := δ) 1) o5) o1) (run_cI (δ := δ) 2) o2) v4 o3) hp) o4
  rw [asg_ok hv, ← hδ]
  rfl
theorem lcL_ok {w : Sl} {r : List Nat} (hr : ∀ g ∈ r, g < 100) : ∀ (es : List (Nat × Nat)) (c : Nat) (s3 s4 s5 : Sl), (∀ e ∈ es, e.1 < r.length ∧ e.2 < r.length) →
    ∃ s3' s4' s5', forR (rgName 3).run (RS.run C E0 (lcB K)) (es.map eP) [w, .pu (.list (iL r)), .pu (.int (c : Int)), s3, s4, s5] = .nx [w, .pu (.list (iL r)), .pu (.int ((es.foldl (codB r) c : Nat) : Int)), s3', s4', s5']
  | [], c, s3, s4, s5, _ => ⟨s3, s4, s5, rfl⟩
  | e :: es, c, s3, s4, s5, h => by
    obtain ⟨a4, a5, hb⟩ := lcB_ok (K := K) (C := C) (w := w) (c := c) (s4 := s4) (s5 := s5) (h e (List.mem_cons_self ..)).1 (h e (List.mem_cons_self ..)).2 hr
    obtain ⟨b3, b4, b5, ih⟩ := lcL_ok (w := w) hr es (codB r c e) (.pu (eP e)) a4 a5 fun q hq => h q (List.mem_cons_of_mem _ hq)
    refine ⟨b3, b4, b5, ?_⟩
    rw [List.map_cons, forR]
    simp only [run_gname, List.set_cons_zero, List.set_cons_succ] at ih ⊢
    rw [hb, List.foldl_cons]
    exact ih
theorem lcode_ok {a : Wb} {r : List Nat} (h : ∀ e ∈ a.2, e.1 < r.length ∧ e.2 < r.length) (hr : ∀ g ∈ r, g < 100) : fLcode K C [toD a, .list (iL r)] = .ok (.int (codU a r : Int)) := by
  have un : (inlaw_code K C).run = RS.run C E0 (rdlaw_code K C) := rfl
  show outF0 ((inlaw_code K C).run [.pu (toD a), .pu (.list (iL r)), .any, .any, .any, .any]) = _
  rw [un, run_seqA]
  rw [show RS.run C E0 (tAsg (tC (.int 0)) (gName 2)) [.pu (toD a), .pu (.list (iL r)), .any, .any, .any, .any] = .nx [.pu (toD a), .pu (.list (iL r)), .pu (.int ((0 : Nat) : Int)), .any, .any, .any] from rfl, seqR_nx, run_seqA, run_forA]
  have hi : RI.run C E0 (iTup K (tOp (rIxT K) (tVar 0) (tC (.int 1)))) [.pu (toD a), .pu (.list (iL r)), .pu (.int ((0 : Nat) : Int)), .any, .any, .any] = some (a.2.map eP) := rfl
  obtain ⟨a3, a4, a5, hl⟩ := lcL_ok (K := K) (C := C) (w := .pu (toD a)) hr a.2 0 .any .any .any h
  rw [hi, forA_some, hl]
  rfl
/-! ### all renamings -/
def rngB (a : Wb) : Bool := decide (a.1 ≤ 4) && a.2.all fun e => decide (e.1 < a.1) && decide (e.2 < a.1)
def prmB (n : Nat) : Bool := (permP n n).all fun r => decide (r.length = n) && r.all fun g => decide (g < 100)
theorem prm_ok {n : Nat} (h : n ≤ 4) : fPerm K C [.int (n : Int)] = .ok (.list (lL (permP n n))) ∧ prmB n = true := by
  have : n = 0 ∨ n = 1 ∨ n = 2 ∨ n = 3 ∨ n = 4 := by omega
  rcases this with z | z | z | z | z <;> subst z <;> exact ⟨by kernel_rfl, by kernel_rfl⟩
theorem lcs_run {a : Wb} {s1 s2 s3 : Sl} : ∀ rows : List (List Nat), (∀ r ∈ rows, fLcode K C [toD a, .list (iL r)] = .ok (.int (codU a r : Int))) →
    lcRun ((rgwName 4 [4]).run [.pu (toD a), s1, s2, s3, .any]) (rtYes (C := C) (EX := E0)).run (RE.run C E0 (tCall (spF C 2 (fLcode K C)) [] E0 (tCons (tVar 0) (tCons (tVar 4) tNil)))) (lL rows) = some (iL (rows.map (codU a)))
  | [], _ => rfl
  | r :: rows, h => by
    have ih := lcs_run (s1 := s1) (s2 := s2) (s3 := s3) rows fun q hq => h q (List.mem_cons_of_mem _ hq)
    have hc : runD 2 (fLcode K C) [] [toD a, .list (iL r)] = .ok (.int (codU a r : Int)) := by
      have := h r (List.mem_cons_self ..)
      simp [runD, vDs, runF, this]
    show lcRun _ _ _ (.list (iL r) :: lL rows) = _
    rw [lcRun]
    simp only [run_gwname, List.mem_singleton, if_true, List.set_cons_zero, List.set_cons_succ, run_yes, run_call0A, okR, run_aconsA, run_anilA, run_varA, List.getElem?_cons_zero, List.getElem?_cons_succ, bd_ok, hc] at ih ⊢
    rw [ih]
    rfl
theorem rngB_ok {a : Wb} (h : rngB a = true) : a.1 ≤ 4 ∧ ∀ e ∈ a.2, e.1 < a.1 ∧ e.2 < a.1 := by
  unfold rngB at h
  rw [Bool.and_eq_true, decide_eq_true_eq] at h
  refine ⟨h.1, fun e he => ?_⟩
  have := List.all_eq_true.mp h.2 e he
  rw [Bool.and_eq_true, decide_eq_true_eq, decide_eq_true_eq] at this
  exact this
theorem cb_ok {b : Wb} (h : rngB b = true) (x : PyData) : (inCb K C).run [.pu x, .pu (toD b), .any, .any, .any] = .ok (.int (codM b : Int)) := by
  obtain ⟨h1, h2⟩ := rngB_ok h
  have un : (inCb K C).run = RE.run C E0 (eCb K C) := rfl
  have hc : runD 2 (fLcode K C) [] [toD b, .list (iL (List.range b.1))] = .ok (.int (codM b : Int)) := by
    have : fLcode K C [toD b, .list (iL (List.range b.1))] = .ok (.int (codU b (List.range b.1) : Int)) := lcode_ok (fun e he => by rw [List.length_range]; exact h2 e he) fun g hg => by have := List.mem_range.mp hg; omega
    simp [runD, vDs, runF, this]
    rfl
  have hr : RE.run C E0 (tLc (iRng1 (tCons (tOp (rIxT K) (tVar 1) (tC (.int 0))) tNil)) (gName 3) tYes (tVar 3) [3]) [.pu x, .pu (toD b), .any, .any, .any] = .ok (.list (iL (List.range b.1))) := by
    obtain ⟨n, es⟩ := b
    have h1 : n ≤ 4 := h1
    have : n = 0 ∨ n = 1 ∨ n = 2 ∨ n = 3 ∨ n = 4 := by omega
    rcases this with z | z | z | z | z <;> subst z <;> rfl
  rw [un, run_call0A, run_aconsA, run_aconsA, hr]
  simp only [run_varA, run_anilA, List.getElem?_cons_zero, List.getElem?_cons_succ, bd_ok, hc, okR]
theorem cs_ok {a : Wb} (h : rngB a = true) (x y : PyData) : (inCs K C).run [.pu (toD a), .pu x, .pu y, .any, .any] = .ok (.list (iL (cosM a))) := by
  obtain ⟨h1, h2⟩ := rngB_ok h
  obtain ⟨p1, p2⟩ := prm_ok (K := K) (C := C) h1
  have un : (inCs K C).run = RE.run C E0 (eCs K C) := rfl
  have ea : (roIxT (K := K)).run (toD a) (.int 0) = some (.int (a.1 : Int)) := rfl
  have pr : runD 1 (fPerm K C) [] [.int (a.1 : Int)] = .ok (.list (lL (permP a.1 a.1))) := by simp [runD, vDs, runF, p1]
  have hi : RI.run C E0 (iList K (tCall (spF C 1 (fPerm K C)) [] E0 (tCons (tOp (rIxT K) (tVar 0) (tC (.int 0))) tNil))) [.pu (toD a), .pu x, .pu y, .any, .any] = some (lL (permP a.1 a.1)) := by
    simp only [run_ilistA, run_call0A, okR, run_opA, run_aconsA, run_anilA, run_varA, run_cA, ofO, vD, List.getElem?_cons_zero, List.getElem?_cons_succ, bd_ok, ea, pr, toL]
  have hw : wipeA [.pu (toD a), .pu x, .pu y, .any, .any] [4] = [.pu (toD a), .pu x, .pu y, .any, .any] := rfl
  have hz : (lL (permP a.1 a.1)).length ≤ 100000 := by
    unfold lL
    rw [List.length_map]
    have : a.1 = 0 ∨ a.1 = 1 ∨ a.1 = 2 ∨ a.1 = 3 ∨ a.1 = 4 := by omega
    rcases this with z | z | z | z | z <;> rw [z] <;> decide
  rw [un, run_lcA, hw, hi, lcAll, if_pos hz, lcs_run (permP a.1 a.1) fun r hr => ?_]
  · rfl
  · have := List.all_eq_true.mp p2 r hr
    rw [Bool.and_eq_true, decide_eq_true_eq] at this
    exact lcode_ok (fun e he => by rw [this.1]; exact h2 e he) fun g hg => of_decide_eq_true (List.all_eq_true.mp this.2 g hg)
end
theorem rngS : wsS.all rngB = true := by kernel_rfl
theorem rngL : wsL.all rngB = true := by kernel_rfl
end DL
end
section
set_option Elab.async false
set_option linter.all false
set_option maxRecDepth 100000
set_option maxHeartbeats 4000000
/-! MW: the webs of the draws: _law_web, _law_renamed. -/
namespace DL
open PySem L2 GX
def ltE (a b : Nat × Nat) : Bool := if a.1 = b.1 then decide (a.2 < b.2) else decide (a.1 < b.1)
def pairsOf (n : Nat) (l : Bool) : List (Nat × Nat) := (List.range n).flatMap fun v => ((List.range (v + 1)).filter fun u => decide (u < v) || l).map fun u => (u, v)
def pick : List (Nat × Nat) → List Nat → List (Nat × Nat)
  | e :: es, b :: bs => if b = 1 then e :: pick es bs else pick es bs
  | _, _ => []
def webOf (n : Nat) (l : Bool) (p : List Nat) : Wb := (n, srtB ltE (pick (pairsOf n l) p))
def bits : Nat → List (List Nat)
  | 0 => [[]]
  | n + 1 => (bits n).flatMap fun p => [0 :: p, 1 :: p]
def insAll (x : Nat) : List Nat → List (List Nat)
  | [] => [[x]]
  | y :: ys => (x :: y :: ys) :: (insAll x ys).map (y :: ·)
def permsOf : Nat → List (List Nat)
  | 0 => [[]]
  | n + 1 => (permsOf n).flatMap (insAll n)
def renM (a : Wb) (r : List Nat) : Wb := (a.1, srtB ltE (a.2.map fun e => (min (r[e.1]?.getD 0) (r[e.2]?.getD 0), max (r[e.1]?.getD 0) (r[e.2]?.getD 0))))
section
variable (K : PySem.W.Frag) (C : Addr)
def webAll (t6 t7 t8 t9 : PyData) (n : Nat) (l : Bool) : List (Rn PyData) := (bits 6).map fun p => fWeb K C [.int (n : Int), .list (iL p ++ [t6, t7, t8, t9]), .bool l]
theorem kWS (t6 t7 t8 t9 : PyData) : ([0, 1, 2, 3, 4].map fun n => webAll K C t6 t7 t8 t9 n false) = [0, 1, 2, 3, 4].map fun n => (bits 6).map fun p => .ok (toD (webOf n false p)) := by kernel_rfl
theorem kWL (t6 t7 t8 t9 : PyData) : ([0, 1, 2, 3].map fun n => webAll K C t6 t7 t8 t9 n true) = [0, 1, 2, 3].map fun n => (bits 6).map fun p => .ok (toD (webOf n true p)) := by kernel_rfl
end
theorem mWS : ([0, 1, 2, 3, 4].all fun n => (bits 6).all fun p => decide (webOf n false p ∈ wsS)) = true := by kernel_rfl
theorem mWL : ([0, 1, 2, 3].all fun n => (bits 6).all fun p => decide (webOf n true p ∈ wsL)) = true := by kernel_rfl
/-! ### _law_renamed by its mirror -/
def toZ (e : Nat × Nat) : Int × Int := ((e.1 : Int), (e.2 : Int))
theorem dPs_eP : ∀ es : List (Nat × Nat), dPs (es.map eP) = some (es.map toZ)
  | [] => rfl
  | e :: es => by
    show dPs (.tuple [.int (e.1 : Int), .int (e.2 : Int)] :: es.map eP) = _
    rw [dPs, dPs_eP es]
    rfl
theorem lexB_toZ (a b : Nat × Nat) : SrtO.lexB (toZ a) (toZ b) = ltE a b := by
  unfold SrtO.lexB ltE toZ
  by_cases h : a.1 = b.1
  · rw [if_pos h, if_pos (by show (a.1 : Int) = (b.1 : Int); omega)]
    exact lt_dec
  · rw [if_neg h, if_neg (by show ¬ (a.1 : Int) = (b.1 : Int); omega)]
    exact lt_dec
theorem insB_map {α β : Type} {f : α → β} {lt : α → α → Bool} {lt' : β → β → Bool} (h : ∀ a b, lt' (f a) (f b) = lt a b) (x : α) : ∀ l : List α, insB lt' (f x) (l.map f) = (insB lt x l).map f
  | [] => rfl
  | y :: ys => by
    rw [List.map_cons, insB, insB, h, insB_map h x ys]
    cases lt y x <;> rfl
theorem srtB_map {α β : Type} {f : α → β} {lt : α → α → Bool} {lt' : β → β → Bool} (h : ∀ a b, lt' (f a) (f b) = lt a b) : ∀ l : List α, srtB lt' (l.map f) = (srtB lt l).map f
  | [] => rfl
  | x :: xs => by rw [List.map_cons, srtB, srtB, srtB_map h xs, insB_map h]
theorem sort_ok {K : PySem.W.Frag} (es : List (Nat × Nat)) : (rbSortP (K := K)).run [.list (es.map eP)] = some (.list ((srtB ltE es).map eP)) := by
  show (dPs (es.map eP)).map (fun ps => PyData.list ((srtB SrtO.lexB ps).map pD)) = _
  rw [dPs_eP]
  show some (PyData.list ((srtB SrtO.lexB (es.map toZ)).map pD)) = _
  rw [srtB_map lexB_toZ, List.map_map]
  rfl
def rnE (r : List Nat) (e : Nat × Nat) : Nat × Nat := (min (r[e.1]?.getD 0) (r[e.2]?.getD 0), max (r[e.1]?.getD 0) (r[e.2]?.getD 0))
section
variable {K : PySem.W.Frag} {C : Addr}
abbrev rnB (K : PySem.W.Frag) : TS := (tSeq (tAsg (tOp (rIxL K) (tVar 1) (tOp (rIxT K) (tVar 3) (tC (.int 0)))) (gName 4)) (tSeq (tAsg (tOp (rIxL K) (tVar 1) (tOp (rIxT K) (tVar 3) (tC (.int 1)))) (gName 5)) (tSeq (tDrop (tBM K "list" rAppend (tVar 2) (tCons (tTup (tCons (tCB rMin2 (tCons (tVar 4) (tCons (tVar 5) tNil))) (tCons (tCB rMax2 (tCons (tVar 4) (tCons (tVar 5) tNil))) tNil))) tNil))) tNext)))
theorem rnL_ok {w : Sl} {r : List Nat} : ∀ (es : List (Nat × Nat)) (acc : List (Nat × Nat)) (s3 s4 s5 : Sl), acc.length + es.length ≤ 2000 → (∀ e ∈ es, e.1 < r.length ∧ e.2 < r.length) →
    ∃ s3' s4' s5', forR (rgName 3).run (RS.run C E0 (rnB K)) (es.map eP) [w, .pu (.list (iL r)), .ow (acc.map eP), s3, s4, s5] = .nx [w, .pu (.list (iL r)), .ow ((acc ++ es.map (rnE r)).map eP), s3', s4', s5']
  | [], acc, s3, s4, s5, _, _ => ⟨s3, s4, s5, by rw [List.map_nil, List.map_nil, List.append_nil]; rfl⟩
  | e :: es, acc, s3, s4, s5, hz, h => by
    rw [List.length_cons] at hz
    obtain ⟨h1, h2⟩ := h e (List.mem_cons_self ..)
    have i0 : (roIxT (K := K)).run (eP e) (.int 0) = some (.int (e.1 : Int)) := rfl
    have i1 : (roIxT (K := K)).run (eP e) (.int 1) = some (.int (e.2 : Int)) := rfl
    have j1 : (roIxL (K := K)).run (.list (iL r)) (.int (e.1 : Int)) = some (.int (r[e.1] : Nat)) := by rw [run_ixL, ixD_iL h1]
    have j2 : (roIxL (K := K)).run (.list (iL r)) (.int (e.2 : Int)) = some (.int (r[e.2] : Nat)) := by rw [run_ixL, ixD_iL h2]
    have er : rnE r e = (min r[e.1] r[e.2], max r[e.1] r[e.2]) := by
      unfold rnE
      rw [List.getElem?_eq_getElem h1, List.getElem?_eq_getElem h2]
      rfl
    have mx := mxR r[e.1] r[e.2]
    have mn := mnR r[e.1] r[e.2]
    have tz : ∀ x y : PyData, [x, y].length ≤ 100000 := fun _ _ => by simp
    have za : (acc.map eP).length < 100000 := by rw [List.length_map]; omega
    obtain ⟨b3, b4, b5, ih⟩ := rnL_ok (w := w) es (acc ++ [rnE r e]) (.pu (eP e)) (.pu (.int (r[e.1] : Nat))) (.pu (.int (r[e.2] : Nat))) (by rw [List.length_append, List.length_singleton]; omega) fun q hq => h q (List.mem_cons_of_mem _ hq)
    refine ⟨b3, b4, b5, ?_⟩
    rw [List.map_cons, forR]
    simp only [run_gname, List.set_cons_zero, List.set_cons_succ] at ih ⊢
    rw [show RS.run C E0 (rnB K) [w, .pu (.list (iL r)), .ow (acc.map eP), .pu (eP e), s4, s5] = .nx [w, .pu (.list (iL r)), .ow ((acc ++ [rnE r e]).map eP), .pu (eP e), .pu (.int (r[e.1] : Nat)), .pu (.int (r[e.2] : Nat))] by
      refine (step (δ' := [w, .pu (.list (iL r)), .ow (acc.map eP), .pu (eP e), .pu (.int (r[e.1] : Nat)), s5]) ?_).trans ?_
      · simp only [run_asgA, runW, run_opA, run_varA, run_cA, List.getElem?_cons_zero, List.getElem?_cons_succ, bd_ok, ofO, vD, i0, j1, asgR, List.set_cons_zero, List.set_cons_succ]
      refine (step (δ' := [w, .pu (.list (iL r)), .ow (acc.map eP), .pu (eP e), .pu (.int (r[e.1] : Nat)), .pu (.int (r[e.2] : Nat))]) ?_).trans ?_
      · simp only [run_asgA, runW, run_opA, run_varA, run_cA, List.getElem?_cons_zero, List.getElem?_cons_succ, bd_ok, ofO, vD, i1, j2, asgR, List.set_cons_zero, List.set_cons_succ]
      refine (step (δ' := [w, .pu (.list (iL r)), .ow ((acc ++ [rnE r e]).map eP), .pu (eP e), .pu (.int (r[e.1] : Nat)), .pu (.int (r[e.2] : Nat))]) ?_).trans rfl
      rw [run_appendA, List.map_append, er]
      simp only [runS, run_tupA, run_cbA, run_aconsA, run_anilA, run_varA, List.getElem?_cons_zero, List.getElem?_cons_succ, bd_ok, ofO, mx, mn, tz, if_true, owAt, appR, za, List.set_cons_zero, List.set_cons_succ]
      rfl]
    rw [List.map_cons, ← List.append_cons] at *
    simp only []
    exact ih
theorem rena_ok {a : Wb} {r : List Nat} (h : ∀ e ∈ a.2, e.1 < r.length ∧ e.2 < r.length) (hz : a.2.length ≤ 1000) : fRena K C [toD a, .list (iL r)] = .ok (toD (renM a r)) := by
  have un : (inlaw_renamed K C).run = RS.run C E0 (rdlaw_renamed K C) := rfl
  show outF0 ((inlaw_renamed K C).run [.pu (toD a), .pu (.list (iL r)), .any, .any, .any, .any]) = _
  rw [un]
  refine (congrArg outF0 (step (δ' := [.pu (toD a), .pu (.list (iL r)), .ow (([] : List (Nat × Nat)).map eP), .any, .any, .any]) rfl)).trans ?_
  have hi : RI.run C E0 (iTup K (tOp (rIxT K) (tVar 0) (tC (.int 1)))) [.pu (toD a), .pu (.list (iL r)), .ow (([] : List (Nat × Nat)).map eP), .any, .any, .any] = some (a.2.map eP) := rfl
  obtain ⟨a3, a4, a5, hl⟩ := rnL_ok (K := K) (C := C) (w := .pu (toD a)) (r := r) a.2 [] .any .any .any (by simp; omega) h
  rw [run_seqA, run_forA, hi, forA_some, hl, seqR_nx, List.nil_append]
  have ea : (roIxT (K := K)).run (toD a) (.int 0) = some (.int (a.1 : Int)) := rfl
  have so := sort_ok (K := K) (a.2.map (rnE r))
  have et : (rbTup (K := K)).run [.list ((srtB ltE (a.2.map (rnE r))).map eP)] = some (.tuple ((srtB ltE (a.2.map (rnE r))).map eP)) := rfl
  have tz : ∀ x y : PyData, [x, y].length ≤ 100000 := fun _ _ => by simp
  generalize (a.2.map (rnE r)).map eP = L at so ⊢
  have hb : RE.run C E0 (tTup (tCons (tOp (rIxT K) (tVar 0) (tC (.int 0))) (tCons (tCB (rTupQ K) (tCons (tCB (rSortedPO K) (tCons (tVar 2) tNil)) tNil)) tNil))) [.pu (toD a), .pu (.list (iL r)), .ow L, a3, a4, a5] = .bad := by
    simp only [run_tupA, run_aconsA, run_opA, run_cbA, run_varA, run_cA, ofO, vD, List.getElem?_cons_zero, List.getElem?_cons_succ, bd_ok, bd_bad, ea]
  have hg : RE.run C E0 (tTup (tCons (tOp (rIxT K) (tVar 0) (tC (.int 0))) (tCons (tCB (rTupQ K) (tCons (tCB (rSortedPO K) (tCons (tVar 2) tNil)) tNil)) tNil))) [.pu (toD a), .pu (.list (iL r)), .pu (.list L), a3, a4, a5] = .ok (toD (renM a r)) := by
    simp only [run_tupA, run_aconsA, run_anilA, run_opA, run_cbA, run_varA, run_cA, ofO, vD, List.getElem?_cons_zero, List.getElem?_cons_succ, bd_ok, ea, so, et, tz, if_true]
    rfl
  rw [run_seqA, run_retA]
  unfold runW
  rw [hb]
  show outF0 (seqR (retR (tryAt (RE.run C E0 _) [.pu (toD a), .pu (.list (iL r)), .ow L, a3, a4, a5] (2 :: owIx 3 [a3, a4, a5]))) _) = _
  rw [tryAt, show frzAt 2 [.pu (toD a), .pu (.list (iL r)), .ow L, a3, a4, a5] = [.pu (toD a), .pu (.list (iL r)), .pu (.list L), a3, a4, a5] from rfl, hg]
  rfl
end
/-- where a web stands among all webs -/
def eqE : List (Nat × Nat) → List (Nat × Nat) → Bool
  | [], [] => true
  | a :: as, b :: bs => match Nat.beq a.1 b.1 && Nat.beq a.2 b.2 with
    | true => eqE as bs
    | false => false
  | _, _ => false
theorem eqE_ok : ∀ {as bs : List (Nat × Nat)}, eqE as bs = true → as = bs
  | [], [], _ => rfl
  | a :: as, b :: bs, h => by
    unfold eqE at h
    cases z : Nat.beq a.1 b.1 && Nat.beq a.2 b.2 with
    | true =>
      rw [z] at h
      rw [Bool.and_eq_true] at z
      obtain ⟨a1, a2⟩ := a
      obtain ⟨b1, b2⟩ := b
      rw [show a1 = b1 from Nat.eq_of_beq_eq_true z.1, show a2 = b2 from Nat.eq_of_beq_eq_true z.2, eqE_ok h]
    | false => rw [z] at h; cases h
  | [], _ :: _, h => by cases h
  | _ :: _, [], h => by cases h
def ixS (w : Wb) : Nat := w.2.foldl (fun c e => c + 2 ^ (e.2 * (e.2 - 1) / 2 + e.1)) ([0, 1, 2, 4, 12].getD w.1 0)
def ixL (w : Wb) : Nat := w.2.foldl (fun c e => c + 2 ^ (e.2 * (e.2 + 1) / 2 + e.1)) ([0, 1, 3, 11].getD w.1 0)
def inW (ws : List Wb) (ix : Nat) (w : Wb) : Bool := match ws[ix]? with
  | some x => Nat.beq w.1 x.1 && eqE w.2 x.2
  | none => false
theorem inW_ok {ws : List Wb} {ix : Nat} {w : Wb} (h : inW ws ix w = true) : w ∈ ws := by
  unfold inW at h
  split at h
  · rename_i x hx
    rw [Bool.and_eq_true] at h
    obtain ⟨w1, w2⟩ := w
    obtain ⟨x1, x2⟩ := x
    rw [show w1 = x1 from Nat.eq_of_beq_eq_true h.1, show w2 = x2 from eqE_ok h.2]
    exact List.mem_of_getElem? hx
  · cases h
theorem mRS : (wsS.all fun a => (permsOf a.1).all fun r => inW wsS (ixS (renM a r)) (renM a r)) = true := by kernel_rfl
theorem mRL : (wsL.all fun a => (permsOf a.1).all fun r => inW wsL (ixL (renM a r)) (renM a r)) = true := by kernel_rfl
theorem prm_len : ([0, 1, 2, 3, 4].all fun n => (permsOf n).all fun r => decide (r.length = n)) = true := by kernel_rfl
theorem edg_len : (wsS.all fun a => decide (a.2.length ≤ 1000)) = true ∧ (wsL.all fun a => decide (a.2.length ≤ 1000)) = true := ⟨by kernel_rfl, by kernel_rfl⟩
section
variable {K : PySem.W.Frag} {C : Addr}
theorem ren_of {ws : List Wb} {ix : Wb → Nat} (hg : ws.all rngB = true) (he : (ws.all fun a => decide (a.2.length ≤ 1000)) = true) (hm : (ws.all fun a => (permsOf a.1).all fun r => inW ws (ix (renM a r)) (renM a r)) = true) {a : Wb} (ha : a ∈ ws) {r : List Nat} (hr : r ∈ permsOf a.1) :
    renM a r ∈ ws ∧ fRena K C [toD a, .list (iL r)] = .ok (toD (renM a r)) := by
  obtain ⟨g1, g2⟩ := rngB_ok (List.all_eq_true.mp hg a ha)
  have hl : r.length = a.1 := by
    have m : a.1 ∈ [0, 1, 2, 3, 4] := by
      have : a.1 = 0 ∨ a.1 = 1 ∨ a.1 = 2 ∨ a.1 = 3 ∨ a.1 = 4 := by omega
      rcases this with z | z | z | z | z <;> rw [z] <;> decide
    exact of_decide_eq_true (List.all_eq_true.mp (List.all_eq_true.mp prm_len _ m) r hr)
  exact ⟨inW_ok (List.all_eq_true.mp (List.all_eq_true.mp hm a ha) r hr), rena_ok (fun e h => by rw [hl]; exact g2 e h) (of_decide_eq_true (List.all_eq_true.mp he a ha))⟩
theorem ren_S {a : Wb} (ha : a ∈ wsS) {r : List Nat} (hr : r ∈ permsOf a.1) : renM a r ∈ wsS ∧ fRena K C [toD a, .list (iL r)] = .ok (toD (renM a r)) := ren_of rngS edg_len.1 mRS ha hr
theorem ren_L {a : Wb} (ha : a ∈ wsL) {r : List Nat} (hr : r ∈ permsOf a.1) : renM a r ∈ wsL ∧ fRena K C [toD a, .list (iL r)] = .ok (toD (renM a r)) := ren_of rngL edg_len.2 mRL ha hr
end
end DL
end
section
set_option Elab.async false
set_option linter.all false
set_option synthInstance.maxSize 1000000
set_option synthInstance.maxHeartbeats 4000000
set_option maxRecDepth 100000
set_option maxHeartbeats 4000000
/-! MU: _law_shuffle by its mirror. -/
namespace DL
open PySem L2 GX
section
variable {C : Addr} {K : PySem.W.Frag}
abbrev shB (K : PySem.W.Frag) : TS := (tSeq (tAsg (tOp (rI (fun _ j => 0 < j) fun i j => .int (i % j)) (tCB rInt1 (tCons (tVar 3) tNil)) (tCB (rLenQ K) (tCons (tVar 1) tNil))) (gName 4)) (tSeq (tDrop (tBM K "list" rAppend (tVar 2) (tCons (tOp (rIxL K) (tVar 1) (tVar 4)) tNil))) (tSeq (tAsg (tOp rCat (tSl (rSlL K) (tVar 1) tNoPart (tPart (tVar 4))) (tSl (rSlL K) (tVar 1) (tPart (tOp (rI0 fun i j => .int (i + j)) (tVar 4) (tC (.int 1)))) tNoPart)) (gName 1)) tNext)))
theorem cut1 {L : List Nat} {p : Nat} (h : p ≤ L.length) : cutD (iL L) none (some (p : Int)) = iL (L.take p) := by
  have e1 : HT.sIx (iL L).length 0 none = 0 := rfl
  have e2 : HT.sIx (iL L).length (iL L).length (some (p : Int)) = p := by
    unfold HT.sIx
    simp only
    rw [if_neg (by omega), iL_len, Int.toNat_natCast]
    omega
  unfold cutD
  rw [e1, e2]
  unfold iL
  rw [List.drop_zero, Nat.sub_zero, List.map_take]
theorem cut2 {L : List Nat} {p : Nat} (h : p ≤ L.length) : cutD (iL L) (some (p : Int)) none = iL (L.drop p) := by
  have e1 : HT.sIx (iL L).length 0 (some (p : Int)) = p := by
    unfold HT.sIx
    simp only
    rw [if_neg (by omega), iL_len, Int.toNat_natCast]
    omega
  have e2 : HT.sIx (iL L).length (iL L).length none = (iL L).length := rfl
  unfold cutD
  rw [e1, e2, iL_len]
  unfold iL
  rw [List.take_of_length_le (by rw [List.length_drop, List.length_map]; omega), List.map_drop]
theorem shB_ok {s0 s4 s5 : Sl} {L R : List Nat} {d : Nat} (hL : 0 < L.length) (hl : L.length < 1000) (hR : R.length < 1000) :
    RS.run C E0 (shB K) [s0, .pu (.list (iL L)), .ow (iL R), .pu (.int (d : Int)), s4, s5] = .nx [s0, .pu (.list (iL (L.take (d % L.length) ++ L.drop (d % L.length + 1)))), .ow (iL (R ++ [L[d % L.length]?.getD 0])), .pu (.int (d : Int)), .pu (.int ((d % L.length : Nat) : Int)), s5] := by
  have hp : d % L.length < L.length := Nat.mod_lt _ hL
  have h0 : (0 : Int) < (L.length : Int) := by omega
  have em : (d : Int) % (L.length : Int) = ((d % L.length : Nat) : Int) := rfl
  have ez : R.length < 100000 := by omega
  have er : iL (R ++ [L[d % L.length]?.getD 0]) = iL R ++ [.int ((L[d % L.length]?.getD 0 : Nat) : Int)] := by rw [iL_app]; rfl
  have e1 : ixD (iL L) ((d % L.length : Nat) : Int) = some (.int ((L[d % L.length]?.getD 0 : Nat) : Int)) := by
    rw [ixD_iL hp, List.getElem?_eq_getElem hp]; rfl
  have e2 : ((d % L.length : Nat) : Int) + 1 = ((d % L.length + 1 : Nat) : Int) := rfl
  have ec : (roCat).run (.list (iL (L.take (d % L.length)))) (.list (iL (L.drop (d % L.length + 1)))) = some (.list (iL (L.take (d % L.length) ++ L.drop (d % L.length + 1)))) := by
    show (if (iL (L.take (d % L.length))).length + (iL (L.drop (d % L.length + 1))).length ≤ 100000 then some (PyData.list (iL (L.take (d % L.length)) ++ iL (L.drop (d % L.length + 1)))) else none) = _
    rw [if_pos (by rw [iL_len, iL_len, List.length_take, List.length_drop]; omega), iL_app]
  simp only [run_seq, run_asg, run_append, run_op, run_cb, run_acons, run_anil, run_var, run_c, run_sl, run_pno, run_psome, run_next, runW, runS, List.getElem?_cons_zero, List.getElem?_cons_succ, bd_ok, run_int, run_len, iL_len, run_I, run_I0, h0, if_true, em, vD, ofO, asgR, List.set_cons_zero, List.set_cons_succ, seqR, run_ixL, e1, owAt, appR, ez, toI, slD, cut1 (Nat.le_of_lt hp), e2, cut2 hp, ec, er]
def shufM : List Nat → List Nat → List Nat → List Nat
  | _, R, [] => R
  | L, R, d :: ds => shufM (L.take (d % L.length) ++ L.drop (d % L.length + 1)) (R ++ [L[d % L.length]?.getD 0]) ds
theorem shL_ok {s0 : Sl} : ∀ (ds L R : List Nat) (s3 s4 s5 : Sl), ds.length = L.length → L.length < 500 → R.length + L.length < 900 →
    ∃ L' s3' s4', forR (rgName 3).run (RS.run C E0 (shB K)) (iL ds) [s0, .pu (.list (iL L)), .ow (iL R), s3, s4, s5] = .nx [s0, .pu (.list (iL L')), .ow (iL (shufM L R ds)), s3', s4', s5]
  | [], L, R, s3, s4, s5, _, _, _ => ⟨L, s3, s4, rfl⟩
  | d :: ds, L, R, s3, s4, s5, h1, h2, h3 => by
    have hL : 0 < L.length := by rw [← h1]; simp
    have hp : d % L.length < L.length := Nat.mod_lt _ hL
    have h := shB_ok (C := C) (K := K) (s0 := s0) (s4 := s4) (s5 := s5) (L := L) (R := R) (d := d) hL (by omega) (by omega)
    have hlen : (L.take (d % L.length) ++ L.drop (d % L.length + 1)).length = L.length - 1 := by
      rw [List.length_append, List.length_take, List.length_drop]
      omega
    rw [List.length_cons] at h1
    obtain ⟨L', s3', s4', h4⟩ := shL_ok ds (L.take (d % L.length) ++ L.drop (d % L.length + 1)) (R ++ [L[d % L.length]?.getD 0]) (.pu (.int (d : Int))) (.pu (.int ((d % L.length : Nat) : Int))) s5 (by omega) (by omega) (by rw [List.length_append, List.length_singleton]; omega)
    refine ⟨L', s3', s4', ?_⟩
    show forR _ _ (.int (d : Int) :: iL ds) _ = _
    rw [forR]
    simp only [run_gname] at h4
    simp only [run_gname, List.set_cons_zero, List.set_cons_succ, h]
    exact h4
theorem shuf_ok (ds : List Nat) (hd : ds.length < 400) : Flaw_shuffle K C [.list (iL ds)] = .ok (.list (iL (shufM (List.range ds.length) [] ds))) := by
  have un : (inlaw_shuffle K C).run = RS.run C E0 (rdlaw_shuffle K C) := rfl
  obtain ⟨L', s3', s4', h⟩ := shL_ok (C := C) (K := K) (s0 := .pu (.list (iL ds))) ds (List.range ds.length) [] .any .any .any (by rw [List.length_range]) (by rw [List.length_range]; omega) (by rw [List.length_range]; simp; omega)
  have hfor : RS.run C E0 (tFor (iList K (tVar 0)) (gName 3) (shB K)) [.pu (.list (iL ds)), .pu (.list (iL (List.range ds.length))), .ow [], .any, .any, .any] = .nx [.pu (.list (iL ds)), .pu (.list (iL L')), .ow (iL (shufM (List.range ds.length) [] ds)), s3', s4', .any] := by
    rw [run_for]
    have hi : (RI.run C E0 (iList K (tVar 0))) [.pu (.list (iL ds)), .pu (.list (iL (List.range ds.length))), .ow [], .any, .any, .any] = some (iL ds) := rfl
    dsimp only
    rw [hi, forA_some]
    exact h
  have hlc : ∀ l : List Nat, lcRun ((rgwName 5 [5]).run [.pu (.list (iL ds)), .any, .any, .any, .any, .any]) (rtYes (C := C) (EX := E0)).run (RE.run C E0 (tVar 5)) (iL l) = some (iL l) := by
    intro l
    induction l with
    | nil => rfl
    | cons n l ih =>
      show lcRun _ _ _ (.int (n : Int) :: iL l) = _
      rw [lcRun]
      simp only [run_gwname, List.mem_singleton, if_true, List.set_cons_zero, List.set_cons_succ, run_yes, run_var, List.getElem?_cons_zero, List.getElem?_cons_succ] at ih ⊢
      rw [ih]
      rfl
  have s1 : RS.run C E0 (tAsg (tLc (iRng1 (tCons (tCB (rLenQ K) (tCons (tVar 0) tNil)) tNil)) (gName 5) tYes (tVar 5) [5]) (gName 1)) [.pu (.list (iL ds)), .any, .any, .any, .any, .any] = .nx [.pu (.list (iL ds)), .pu (.list (iL (List.range ds.length))), .any, .any, .any, .any] := by
    have hi : (RI.run C E0 (iRng1 (tCons (tCB (rLenQ K) (tCons (tVar 0) tNil)) tNil))) [.pu (.list (iL ds)), .any, .any, .any, .any, .any] = some (iL (List.range ds.length)) := by
      rw [run_rng1]
      simp only [runA, run_acons, run_cb, run_anil, run_var, List.getElem?_cons_zero, List.getElem?_cons_succ, bd_ok, run_len, ofO, iL_len]
      show rng1 (some [.int (Int.ofNat ds.length)]) = _
      unfold rng1
      simp only [show ds.length ≤ 1000000 by omega, if_true]
      unfold rangeD iL
      simp only [Int.zero_add]
    have hl : (RE.run C E0 (tLc (iRng1 (tCons (tCB (rLenQ K) (tCons (tVar 0) tNil)) tNil)) (gName 5) tYes (tVar 5) [5])) [.pu (.list (iL ds)), .any, .any, .any, .any, .any] = .ok (.list (iL (List.range ds.length))) := by
      rw [run_lc]
      have hw : wipeA [.pu (.list (iL ds)), .any, .any, .any, .any, .any] [5] = [.pu (.list (iL ds)), .any, .any, .any, .any, .any] := rfl
      dsimp only
      rw [hw, hi, lcAll, if_pos (by rw [iL_len, List.length_range]; omega), hlc]
    simp only [run_asg, runW, hl, asgR, List.set_cons_zero, List.set_cons_succ]
  have s2 : RS.run C E0 (tOwn tNil 2) [.pu (.list (iL ds)), .pu (.list (iL (List.range ds.length))), .any, .any, .any, .any] = .nx [.pu (.list (iL ds)), .pu (.list (iL (List.range ds.length))), .ow [], .any, .any, .any] := rfl
  unfold Flaw_shuffle
  rw [un, run_seq]
  dsimp only
  rw [show startA 6 [.list (iL ds)] = [.pu (.list (iL ds)), .any, .any, .any, .any, .any] from rfl, s1, seqR_nx, run_seq]
  dsimp only
  rw [s2, seqR_nx, run_seq]
  dsimp only
  rw [hfor, seqR_nx]
  simp only [run_seq, run_ret, runW, run_var, List.getElem?_cons_zero, List.getElem?_cons_succ, owIx, tryAt, frzAt, List.set_cons_zero, List.set_cons_succ, shal, flat1, if_false, Bool.false_eq_true, retR, seqR, outF0]
end
end DL
end
section
set_option Elab.async false
set_option linter.all false
set_option warn.classDefReducibility false
set_option synthInstance.maxSize 1000000
set_option synthInstance.maxHeartbeats 4000000
set_option maxRecDepth 100000
set_option maxHeartbeats 4000000
/-! MV: _law_moved over the webs. -/
namespace DL
open PySem L2 GX
def fullM (a : Wb) (b : Bool) : List (Nat × Nat) := a.2.filter fun e => (decide (e.1 = e.2)) == b
def freeM (a : Wb) (b : Bool) : List (Nat × Nat) := (pairsOf a.1 true).filter fun e => ((decide (e.1 = e.2)) == b) && !decide (e ∈ a.2)
def mvM (a : Wb) (b : Bool) (i j : Nat) : Wb := (a.1, srtB ltE ((a.2.filter fun e => decide (e ≠ (fullM a b)[i]?.getD (0, 0))) ++ [(freeM a b)[j]?.getD (0, 0)]))
def endN (n : Nat) : Sl := if n = 0 then .any else .pu (.int ((n - 1 : Nat) : Int))
abbrev mvPre (K : PySem.W.Frag) : TS := tSeq (tAsg (tLc (iTup K (tOp (rIxT K) (tVar 0) (tC (.int 1)))) (gName 10) (tTest (tOp rEq (tOp rEq (tOp (rIxT K) (tVar 10) (tC (.int 0))) (tOp (rIxT K) (tVar 10) (tC (.int 1)))) (tVar 3))) (tVar 10) [10]) (gName 4)) (tSeq (tOwn tNil 5) (tFor (iRng1 (tCons (tOp (rIxT K) (tVar 0) (tC (.int 0))) tNil)) (gName 6) (tSeq (tFor (iRng1 (tCons (tOp (rI0 fun i j => .int (i + j)) (tVar 6) (tC (.int 1))) tNil)) (gName 9) (tSeq (tIfS (tAnd (tTest (tOp rEq (tOp rEq (tVar 9) (tVar 6)) (tVar 3))) (tTest (tOp (rInDT K true) (tTup (tCons (tVar 9) (tCons (tVar 6) tNil))) (tOp (rIxT K) (tVar 0) (tC (.int 1)))))) (tSeq (tDrop (tBM K "list" rAppend (tVar 5) (tCons (tTup (tCons (tVar 9) (tCons (tVar 6) tNil))) tNil))) tNext) tNext) tNext)) tNext)))
def inMvPre (K : PySem.W.Frag) (C : Addr) : RS C E0 (mvPre K) := inferInstance
section
variable (K : PySem.W.Frag) (C : Addr)
theorem kPS (d l : PyData) : (wsS.map fun a => (inMvPre K C).run [.pu (toD a), .pu d, .pu l, .pu (.bool false), .any, .any, .any, .any, .any, .any, .any]) =
  wsS.map fun a => .nx [.pu (toD a), .pu d, .pu l, .pu (.bool false), .pu (.list ((fullM a false).map eP)), .ow ((freeM a false).map eP), endN a.1, .any, .any, endN a.1, .any] := by kernel_rfl
theorem kPL (d l : PyData) : ([false, true].map fun b => wsL.map fun a => (inMvPre K C).run [.pu (toD a), .pu d, .pu l, .pu (.bool b), .any, .any, .any, .any, .any, .any, .any]) =
  [false, true].map fun b => wsL.map fun a => .nx [.pu (toD a), .pu d, .pu l, .pu (.bool b), .pu (.list ((fullM a b).map eP)), .ow ((freeM a b).map eP), endN a.1, .any, .any, endN a.1, .any] := by kernel_rfl
end
theorem mMS : (wsS.all fun a => (List.range (fullM a false).length).all fun i => (List.range (freeM a false).length).all fun j => decide (mvM a false i j ∈ wsS)) = true := by kernel_rfl
theorem mML : ([false, true].all fun b => wsL.all fun a => (List.range (fullM a b).length).all fun i => (List.range (freeM a b).length).all fun j => decide (mvM a b i j ∈ wsL)) = true := by kernel_rfl
end DL
end
section
set_option Elab.async false
set_option linter.all false
set_option warn.classDefReducibility false
set_option synthInstance.maxSize 1000000
set_option synthInstance.maxHeartbeats 4000000
set_option maxRecDepth 100000
set_option maxHeartbeats 4000000
/-! MV2: _law_moved of a web is a web. -/
namespace DL
open PySem L2 GX
abbrev mvX (f c : Nat) (K : PySem.W.Frag) : TE := tOp (rI (fun _ j => 0 < j) fun i j => .int (i % j)) (tCB rInt1 (tCons (tOp (rI CDiv fun i j => .int (i / j)) (tVar 1) (tC (.int (c : Int)))) tNil)) (tCB (rLenQ K) (tCons (tVar f) tNil))
abbrev mv5 (K : PySem.W.Frag) : TS := tIfS (tOr (tTest (tOp rEq (tCB (rLenQ K) (tCons (tVar 4) tNil)) (tC (.int 0)))) (tTest (tOp rEq (tCB (rLenQ K) (tCons (tVar 5) tNil)) (tC (.int 0))))) (tSeq (tRet (tVar 0)) tNext) tNext
abbrev mv6 (K : PySem.W.Frag) : TS := tAsg (tOp (rIxL K) (tVar 4) (mvX 4 2 K)) (gName 7)
abbrev mv7 (K : PySem.W.Frag) : TS := tAsg (tLc (iTup K (tOp (rIxT K) (tVar 0) (tC (.int 1)))) (gName 10) (tTest (tOp (rNeD K) (tVar 10) (tVar 7))) (tVar 10) [10]) (gName 8)
abbrev mv8 (K : PySem.W.Frag) (X : TE) : TE := tTup (tCons (tOp (rIxT K) (tVar 0) (tC (.int 0))) (tCons (tCB (rTupQ K) (tCons (tCB (rSortedPO K) (tCons (tOp rCat (tVar 8) (tLst (tCons (tOp (rIxL K) (tVar 5) X) tNil))) tNil)) tNil)) tNil))
def inMv7 (K : PySem.W.Frag) (C : Addr) : RS C E0 (mv7 K) := inferInstance
def inMv8 (K : PySem.W.Frag) (C : Addr) : RE C E0 (mv8 K (tVar 1)) := inferInstance
def edM (a : Wb) (b : Bool) (i : Nat) : List (Nat × Nat) := a.2.filter fun e => decide (e ≠ (fullM a b)[i]?.getD (0, 0))
def mvD (a : Wb) (b : Bool) (d l : PyData) : List Sl := [.pu (toD a), .pu d, .pu l, .pu (.bool b), .pu (.list ((fullM a b).map eP)), .ow ((freeM a b).map eP), endN a.1, .any, .any, endN a.1, .any]
section
variable (K : PySem.W.Frag) (C : Addr)
theorem k7S (d l : PyData) : (wsS.map fun a => (List.range (fullM a false).length).map fun i => (inMv7 K C).run [.pu (toD a), .pu d, .pu l, .pu (.bool false), .pu (.list ((fullM a false).map eP)), .ow ((freeM a false).map eP), endN a.1, .pu (eP ((fullM a false)[i]?.getD (0, 0))), .any, endN a.1, .any]) =
  wsS.map fun a => (List.range (fullM a false).length).map fun i => .nx [.pu (toD a), .pu d, .pu l, .pu (.bool false), .pu (.list ((fullM a false).map eP)), .ow ((freeM a false).map eP), endN a.1, .pu (eP ((fullM a false)[i]?.getD (0, 0))), .pu (.list ((edM a false i).map eP)), endN a.1, .any] := by kernel_rfl
theorem k7L (d l : PyData) : ([false, true].map fun b => wsL.map fun a => (List.range (fullM a b).length).map fun i => (inMv7 K C).run [.pu (toD a), .pu d, .pu l, .pu (.bool b), .pu (.list ((fullM a b).map eP)), .ow ((freeM a b).map eP), endN a.1, .pu (eP ((fullM a b)[i]?.getD (0, 0))), .any, endN a.1, .any]) =
  [false, true].map fun b => wsL.map fun a => (List.range (fullM a b).length).map fun i => .nx [.pu (toD a), .pu d, .pu l, .pu (.bool b), .pu (.list ((fullM a b).map eP)), .ow ((freeM a b).map eP), endN a.1, .pu (eP ((fullM a b)[i]?.getD (0, 0))), .pu (.list ((edM a b i).map eP)), endN a.1, .any] := by kernel_rfl
def f8 (a : Wb) (b : Bool) (i j : Nat) (l : PyData) : List Sl := [.pu (toD a), .pu (.int (j : Int)), .pu l, .pu (.bool b), .pu (.list ((fullM a b).map eP)), .pu (.list ((freeM a b).map eP)), endN a.1, .pu (eP ((fullM a b)[i]?.getD (0, 0))), .pu (.list ((edM a b i).map eP)), endN a.1, .any]
theorem k8S (l : PyData) : (wsS.map fun a => (List.range (fullM a false).length).map fun i => (List.range (freeM a false).length).map fun j => (inMv8 K C).run (f8 a false i j l)) = wsS.map fun a => (List.range (fullM a false).length).map fun i => (List.range (freeM a false).length).map fun j => .ok (toD (mvM a false i j)) := by kernel_rfl
theorem k8L (l : PyData) : ([false, true].map fun b => wsL.map fun a => (List.range (fullM a b).length).map fun i => (List.range (freeM a b).length).map fun j => (inMv8 K C).run (f8 a b i j l)) = [false, true].map fun b => wsL.map fun a => (List.range (fullM a b).length).map fun i => (List.range (freeM a b).length).map fun j => .ok (toD (mvM a b i j)) := by kernel_rfl
end
theorem map_at {α β : Type} {l : List α} {f g : α → β} (h : l.map f = l.map g) {a : α} (ha : a ∈ l) : f a = g a := List.map_inj_left.mp h a ha
section
variable {K : PySem.W.Frag} {C : Addr}
/-- what is known of a web of the tables -/
structure MvF (K : PySem.W.Frag) (C : Addr) (a : Wb) (b : Bool) (ws : List Wb) : Prop where
  pre : ∀ d l, (inMvPre K C).run [.pu (toD a), .pu d, .pu l, .pu (.bool b), .any, .any, .any, .any, .any, .any, .any] = .nx (mvD a b d l)
  s7 : ∀ d l i, i < (fullM a b).length → (inMv7 K C).run [.pu (toD a), .pu d, .pu l, .pu (.bool b), .pu (.list ((fullM a b).map eP)), .ow ((freeM a b).map eP), endN a.1, .pu (eP ((fullM a b)[i]?.getD (0, 0))), .any, endN a.1, .any] =
    .nx [.pu (toD a), .pu d, .pu l, .pu (.bool b), .pu (.list ((fullM a b).map eP)), .ow ((freeM a b).map eP), endN a.1, .pu (eP ((fullM a b)[i]?.getD (0, 0))), .pu (.list ((edM a b i).map eP)), endN a.1, .any]
  s8 : ∀ l i j, i < (fullM a b).length → j < (freeM a b).length → (inMv8 K C).run (f8 a b i j l) = .ok (toD (mvM a b i j))
  mem : ∀ i j, i < (fullM a b).length → j < (freeM a b).length → mvM a b i j ∈ ws
theorem mvF_S {a : Wb} (ha : a ∈ wsS) : MvF K C a false wsS where
  pre d l := map_at (kPS K C d l) ha
  s7 d l i hi := map_at (map_at (k7S K C d l) ha) (List.mem_range.mpr hi)
  s8 l i j hi hj := map_at (map_at (map_at (k8S K C l) ha) (List.mem_range.mpr hi)) (List.mem_range.mpr hj)
  mem i j hi hj := of_decide_eq_true (List.all_eq_true.mp (List.all_eq_true.mp (List.all_eq_true.mp mMS a ha) i (List.mem_range.mpr hi)) j (List.mem_range.mpr hj))
theorem mvF_L {a : Wb} {b : Bool} (ha : a ∈ wsL) : MvF K C a b wsL where
  pre d l := map_at (map_at (kPL K C d l) (by cases b <;> simp)) ha
  s7 d l i hi := map_at (map_at (map_at (k7L K C d l) (by cases b <;> simp)) ha) (List.mem_range.mpr hi)
  s8 l i j hi hj := map_at (map_at (map_at (map_at (k8L K C l) (by cases b <;> simp)) ha) (List.mem_range.mpr hi)) (List.mem_range.mpr hj)
  mem i j hi hj := of_decide_eq_true (List.all_eq_true.mp (List.all_eq_true.mp (List.all_eq_true.mp (List.all_eq_true.mp mML b (by cases b <;> simp)) a ha) i (List.mem_range.mpr hi)) j (List.mem_range.mpr hj))
theorem ep_get {es : List (Nat × Nat)} {i : Nat} (h : i < es.length) : ixD (es.map eP) (i : Int) = some (eP (es[i]?.getD (0, 0))) := by
  show (es.map eP)[i]? = _
  rw [List.getElem?_map, List.getElem?_eq_getElem h]; rfl
end
end DL
end
section
set_option Elab.async false
set_option linter.all false
set_option warn.classDefReducibility false
set_option synthInstance.maxSize 1000000
set_option synthInstance.maxHeartbeats 4000000
set_option maxRecDepth 100000
set_option maxHeartbeats 4000000
/-! MV3: _law_moved of a web is a web: joined. -/
namespace DL
open PySem L2 GX
theorem seqR_assoc {o : Fl} {k k2 : List Sl → Fl} : seqR (seqR o k) k2 = seqR o (fun δ => seqR (k δ) k2) := by cases o <;> rfl
section
variable {K : PySem.W.Frag} {C : Addr}
theorem moved_ok {a : Wb} {b l : Bool} {ws : List Wb} {d : Nat} (F : MvF K C a b ws) (ha : a ∈ ws) (hb : (l && decide (d % 2 = 1)) = b) : ∃ a' ∈ ws, Flaw_moved K C [toD a, .int (d : Int), .bool l] = .ok (toD a') := by
  have un : (inlaw_moved K C).run = RS.run C E0 (rdlaw_moved K C) := rfl
  have h2 : (0 : Int) < 2 := by decide
  have s1 : RS.run C E0 (tAsg (tAndV (tVar 2) (tOp rEq (tOp (rI (fun _ j => 0 < j) fun i j => .int (i % j)) (tCB rInt1 (tCons (tVar 1) tNil)) (tC (.int 2))) (tC (.int 1)))) (gName 3)) [.pu (toD a), .pu (.int (d : Int)), .pu (.bool l), .any, .any, .any, .any, .any, .any, .any, .any] = .nx [.pu (toD a), .pu (.int (d : Int)), .pu (.bool l), .pu (.bool b), .any, .any, .any, .any, .any, .any, .any] := by
    have e : decide ((d : Int) % 2 = 1) = decide (d % 2 = 1) := by
      by_cases h : d % 2 = 1
      · rw [decide_eq_true h, decide_eq_true (by omega)]
      · rw [decide_eq_false h, decide_eq_false (by omega)]
    subst hb
    cases l with
    | false => simp only [run_asgA, runW, run_andVA, run_varA, List.getElem?_cons_zero, List.getElem?_cons_succ, bd_ok, toB, if_false, Bool.false_eq_true, asgR, List.set_cons_zero, List.set_cons_succ, Bool.false_and]
    | true => simp only [run_asgA, runW, run_andVA, run_varA, run_opA, run_cbA, run_aconsA, run_anilA, run_cA, List.getElem?_cons_zero, List.getElem?_cons_succ, bd_ok, toB, if_true, run_int, run_I, h2, vD, ofO, run_eq, eqS, Option.map_some, e, bB, asgR, List.set_cons_zero, List.set_cons_succ, Bool.true_and]
  have h5 : RS.run C E0 (mv5 K) (mvD a b (.int (d : Int)) (.bool l)) = if (fullM a b).length = 0 ∨ (freeM a b).length = 0 then .rt (toD a) else .nx (mvD a b (.int (d : Int)) (.bool l)) := by
    have e1 : decide (((fullM a b).length : Int) = 0) = decide ((fullM a b).length = 0) := by
      by_cases h : (fullM a b).length = 0
      · rw [decide_eq_true h, decide_eq_true (by omega)]
      · rw [decide_eq_false h, decide_eq_false (by omega)]
    have e2 : decide (((freeM a b).length : Int) = 0) = decide ((freeM a b).length = 0) := by
      by_cases h : (freeM a b).length = 0
      · rw [decide_eq_true h, decide_eq_true (by omega)]
      · rw [decide_eq_false h, decide_eq_false (by omega)]
    by_cases c1 : (fullM a b).length = 0
    · have f1 : decide ((fullM a b).length = 0) = true := decide_eq_true c1
      rw [if_pos (.inl c1)]
      simp only [mvD, run_ifA, runT, run_torA, run_testA, run_opA, run_cbA, run_aconsA, run_anilA, run_varA, run_cA, List.getElem?_cons_zero, List.getElem?_cons_succ, bd_ok, run_len, List.length_map, ofO, vD, run_eq, eqS, Option.map_some, e1, f1, toB, if_true, ifR, run_seqA, run_retA, runW, retR, seqR]
    · have f1 : decide ((fullM a b).length = 0) = false := decide_eq_false c1
      by_cases c2 : (freeM a b).length = 0
      · have f2 : decide ((freeM a b).length = 0) = true := decide_eq_true c2
        rw [if_pos (.inr c2)]
        simp only [mvD, run_ifA, runT, run_torA, run_testA, run_opA, run_cbA, run_aconsA, run_anilA, run_varA, run_cA, List.getElem?_cons_zero, List.getElem?_cons_succ, bd_ok, bd_bad, frz, frzS, List.map_cons, List.map_nil, run_len, List.length_map, ofO, vD, run_eq, eqS, Option.map_some, e1, f1, e2, f2, toB, if_true, if_false, Bool.false_eq_true, ifR, run_seqA, run_retA, runW, retR, seqR]
      · have f2 : decide ((freeM a b).length = 0) = false := decide_eq_false c2
        rw [if_neg (fun z => z.elim c1 c2)]
        simp only [mvD, run_ifA, runT, run_torA, run_testA, run_opA, run_cbA, run_aconsA, run_anilA, run_varA, run_cA, List.getElem?_cons_zero, List.getElem?_cons_succ, bd_ok, bd_bad, frz, frzS, List.map_cons, List.map_nil, run_len, List.length_map, ofO, vD, run_eq, eqS, Option.map_some, e1, f1, e2, f2, toB, if_true, if_false, Bool.false_eq_true, ifR, run_nextA]
  have start : RS.run C E0 (rdlaw_moved K C) [.pu (toD a), .pu (.int (d : Int)), .pu (.bool l), .any, .any, .any, .any, .any, .any, .any, .any] =
      seqR (RS.run C E0 (mv5 K) (mvD a b (.int (d : Int)) (.bool l))) fun δ => seqR (RS.run C E0 (mv6 K) δ) fun δ => seqR (RS.run C E0 (mv7 K) δ) fun δ => seqR (RS.run C E0 (tRet (mv8 K (mvX 5 120 K))) δ) fun δ => .nx δ := by
    show seqR (RS.run C E0 (tAsg (tAndV (tVar 2) (tOp rEq (tOp (rI (fun _ j => 0 < j) fun i j => .int (i % j)) (tCB rInt1 (tCons (tVar 1) tNil)) (tC (.int 2))) (tC (.int 1)))) (gName 3)) _) _ = _
    rw [s1, seqR_nx]
    have hp := F.pre (.int (d : Int)) (.bool l)
    have hp2 : ∀ k2, seqR ((inMvPre K C).run [.pu (toD a), .pu (.int (d : Int)), .pu (.bool l), .pu (.bool b), .any, .any, .any, .any, .any, .any, .any]) k2 = k2 (mvD a b (.int (d : Int)) (.bool l)) := fun k2 => by rw [hp]; rfl
    rw [← hp2 (fun δ => seqR (RS.run C E0 (mv5 K) δ) fun δ => seqR (RS.run C E0 (mv6 K) δ) fun δ => seqR (RS.run C E0 (mv7 K) δ) fun δ => seqR (RS.run C E0 (tRet (mv8 K (mvX 5 120 K))) δ) fun δ => .nx δ)]
    exact (seqR_assoc.trans (congrArg (seqR _) (funext fun δ => seqR_assoc))).symm
  unfold Flaw_moved
  rw [un]
  show ∃ a' ∈ ws, outF0 (RS.run C E0 (rdlaw_moved K C) [.pu (toD a), .pu (.int (d : Int)), .pu (.bool l), .any, .any, .any, .any, .any, .any, .any, .any]) = _
  rw [start, h5]
  by_cases c : (fullM a b).length = 0 ∨ (freeM a b).length = 0
  · rw [if_pos c]
    exact ⟨a, ha, rfl⟩
  · rw [if_neg c, seqR_nx]
    have k0 : 0 < (fullM a b).length := by omega
    have m0 : 0 < (freeM a b).length := by omega
    have hi : d / 2 % (fullM a b).length < (fullM a b).length := Nat.mod_lt _ k0
    have hj : d / 120 % (freeM a b).length < (freeM a b).length := Nat.mod_lt _ m0
    have i1 : (d : Int) / 2 % ((fullM a b).length : Int) = ((d / 2 % (fullM a b).length : Nat) : Int) := rfl
    have i2 : (d : Int) / 120 % ((freeM a b).length : Int) = ((d / 120 % (freeM a b).length : Nat) : Int) := rfl
    have k0' : (0 : Int) < ((fullM a b).length : Int) := by omega
    have m0' : (0 : Int) < ((freeM a b).length : Int) := by omega
    have dv2 : CDiv (d : Int) 2 := ⟨by decide, by decide⟩
    have dv120 : CDiv (d : Int) 120 := ⟨by decide, by decide⟩
    have h6 : RS.run C E0 (mv6 K) (mvD a b (.int (d : Int)) (.bool l)) = .nx [.pu (toD a), .pu (.int (d : Int)), .pu (.bool l), .pu (.bool b), .pu (.list ((fullM a b).map eP)), .ow ((freeM a b).map eP), endN a.1, .pu (eP ((fullM a b)[d / 2 % (fullM a b).length]?.getD (0, 0))), .any, endN a.1, .any] := by
      have c2 : ((2 : Nat) : Int) = 2 := rfl
      simp only [mvD, run_asgA, runW, run_opA, run_cbA, run_aconsA, run_anilA, run_varA, run_cA, List.getElem?_cons_zero, List.getElem?_cons_succ, bd_ok, run_len, List.length_map, ofO, vD, c2, run_I, dv2, if_true, run_int, k0', i1, run_ixL, ep_get hi, asgR, List.set_cons_zero, List.set_cons_succ]
    have h7 := F.s7 (.int (d : Int)) (.bool l) _ hi
    have h7' : RS.run C E0 (mv7 K) [.pu (toD a), .pu (.int (d : Int)), .pu (.bool l), .pu (.bool b), .pu (.list ((fullM a b).map eP)), .ow ((freeM a b).map eP), endN a.1, .pu (eP ((fullM a b)[d / 2 % (fullM a b).length]?.getD (0, 0))), .any, endN a.1, .any] = _ := h7
    have hX : RE.run C E0 (mvX 5 120 K) [.pu (toD a), .pu (.int (d : Int)), .pu (.bool l), .pu (.bool b), .pu (.list ((fullM a b).map eP)), .pu (.list ((freeM a b).map eP)), endN a.1, .pu (eP ((fullM a b)[d / 2 % (fullM a b).length]?.getD (0, 0))), .pu (.list ((edM a b (d / 2 % (fullM a b).length)).map eP)), endN a.1, .any] = .ok (.int ((d / 120 % (freeM a b).length : Nat) : Int)) := by
      have c2 : ((120 : Nat) : Int) = 120 := rfl
      simp only [run_opA, run_cbA, run_aconsA, run_anilA, run_varA, run_cA, List.getElem?_cons_zero, List.getElem?_cons_succ, bd_ok, run_len, List.length_map, ofO, vD, c2, run_I, dv120, if_true, run_int, m0', i2]
    have h8 : RE.run C E0 (mv8 K (mvX 5 120 K)) [.pu (toD a), .pu (.int (d : Int)), .pu (.bool l), .pu (.bool b), .pu (.list ((fullM a b).map eP)), .pu (.list ((freeM a b).map eP)), endN a.1, .pu (eP ((fullM a b)[d / 2 % (fullM a b).length]?.getD (0, 0))), .pu (.list ((edM a b (d / 2 % (fullM a b).length)).map eP)), endN a.1, .any] = .ok (toD (mvM a b (d / 2 % (fullM a b).length) (d / 120 % (freeM a b).length))) := by
      have z := F.s8 (.bool l) _ _ hi hj
      have z' : RE.run C E0 (mv8 K (tVar 1)) (f8 a b (d / 2 % (fullM a b).length) (d / 120 % (freeM a b).length) (.bool l)) = .ok (toD (mvM a b (d / 2 % (fullM a b).length) (d / 120 % (freeM a b).length))) := z
      rw [← z']
      unfold f8
      simp only [run_tupA, run_aconsA, run_opA, run_cbA, run_lstA, run_anilA, run_varA, run_cA, ↓hX, List.getElem?_cons_zero, List.getElem?_cons_succ, bd_ok]
    have ea : (roIxT (K := K)).run (toD a) (.int 0) = some (.int (a.1 : Int)) := rfl
    have hb8 : RE.run C E0 (mv8 K (mvX 5 120 K)) [.pu (toD a), .pu (.int (d : Int)), .pu (.bool l), .pu (.bool b), .pu (.list ((fullM a b).map eP)), .ow ((freeM a b).map eP), endN a.1, .pu (eP ((fullM a b)[d / 2 % (fullM a b).length]?.getD (0, 0))), .pu (.list ((edM a b (d / 2 % (fullM a b).length)).map eP)), endN a.1, .any] = .bad := by
      simp only [run_tupA, run_aconsA, run_opA, run_cbA, run_lstA, run_anilA, run_varA, run_cA, List.getElem?_cons_zero, List.getElem?_cons_succ, bd_ok, bd_bad, ofO, vD, ea]
    refine ⟨mvM a b (d / 2 % (fullM a b).length) (d / 120 % (freeM a b).length), F.mem _ _ hi hj, ?_⟩
    rw [h6, seqR_nx, h7', seqR_nx]
    have hnf : shal (toD (mvM a b (d / 2 % (fullM a b).length) (d / 120 % (freeM a b).length))) = false := rfl
    have e9 : owIx 0 [.pu (toD a), .pu (.int (d : Int)), .pu (.bool l), .pu (.bool b), .pu (.list ((fullM a b).map eP)), .ow ((freeM a b).map eP), endN a.1, .pu (eP ((fullM a b)[d / 2 % (fullM a b).length]?.getD (0, 0))), .pu (.list ((edM a b (d / 2 % (fullM a b).length)).map eP)), endN a.1, .any] = [5] := by
      unfold endN
      split <;> rfl
    rw [run_retA, runW, hb8]
    simp only [e9, tryAt, frzAt, List.getElem?_cons_zero, List.getElem?_cons_succ, List.set_cons_zero, List.set_cons_succ, h8, hnf, if_false, Bool.false_eq_true, retR, seqR, outF0]
end
end DL
end
section
set_option Elab.async false
set_option linter.all false
set_option warn.classDefReducibility false
set_option synthInstance.maxSize 1000000
set_option synthInstance.maxHeartbeats 4000000
set_option maxRecDepth 100000
set_option maxHeartbeats 4000000
/-! MO: _law_other: its toggles. -/
namespace DL
open PySem L2 GX
def tgP (u v : Nat) : Nat × Nat := (min u v, max u v)
def tgM (l : Bool) (b : Wb) (u v : Nat) : Wb := if tgP u v ∈ b.2 then (b.1, b.2.filter fun e => decide (e ≠ tgP u v)) else if u ≠ v ∨ l = true then (b.1, srtB ltE (b.2 ++ [tgP u v])) else b
abbrev toTG (K : PySem.W.Frag) : TS := (tIfS (tTest (tOp (rInDT K false) (tVar 9) (tOp (rIxT K) (tVar 4) (tC (.int 1))))) (tSeq (tAsg (tTup (tCons (tOp (rIxT K) (tVar 4) (tC (.int 0))) (tCons (tCB (rTupQ K) (tCons (tLc (iTup K (tOp (rIxT K) (tVar 4) (tC (.int 1)))) (gName 10) (tTest (tOp (rNeD K) (tVar 10) (tVar 9))) (tVar 10) [10]) tNil)) tNil))) (gName 4)) tNext) (tSeq (tIfS (tOr (tTest (tOp rNe (tVar 7) (tVar 8))) (tB (tVar 2))) (tSeq (tAsg (tTup (tCons (tOp (rIxT K) (tVar 4) (tC (.int 0))) (tCons (tCB (rTupQ K) (tCons (tCB (rSortedPO K) (tCons (tOp rCat (tCB (rListQ K) (tCons (tOp (rIxT K) (tVar 4) (tC (.int 1))) tNil)) (tLst (tCons (tVar 9) tNil))) tNil)) tNil)) tNil))) (gName 4)) tNext) tNext) tNext))
def inTG (K : PySem.W.Frag) (C : Addr) : RS C E0 (toTG K) := inferInstance
def dTG (sc a way dr : PyData) (l : Bool) (b : Wb) (u v : Nat) : List Sl := [.pu sc, .pu a, .pu (.bool l), .pu way, .pu (toD b), .pu dr, .any, .pu (.int (u : Int)), .pu (.int (v : Int)), .pu (eP (tgP u v)), .any]
def eTG (sc a way dr : PyData) (l : Bool) (b b' : Wb) (u v : Nat) : List Sl := [.pu sc, .pu a, .pu (.bool l), .pu way, .pu (toD b'), .pu dr, .any, .pu (.int (u : Int)), .pu (.int (v : Int)), .pu (eP (tgP u v)), .any]
section
variable (K : PySem.W.Frag) (C : Addr)
theorem kTS (sc a way dr : PyData) : (wsS.map fun b => (List.range b.1).map fun u => (List.range b.1).map fun v => (inTG K C).run (dTG sc a way dr false b u v)) = wsS.map fun b => (List.range b.1).map fun u => (List.range b.1).map fun v => .nx (eTG sc a way dr false b (tgM false b u v) u v) := by kernel_rfl
theorem kTL (sc a way dr : PyData) : (wsL.map fun b => (List.range b.1).map fun u => (List.range b.1).map fun v => (inTG K C).run (dTG sc a way dr true b u v)) = wsL.map fun b => (List.range b.1).map fun u => (List.range b.1).map fun v => .nx (eTG sc a way dr true b (tgM true b u v) u v) := by kernel_rfl
end
theorem mTS : (wsS.all fun b => (List.range b.1).all fun u => (List.range b.1).all fun v => decide (tgM false b u v ∈ wsS)) = true := by kernel_rfl
theorem mTL : (wsL.all fun b => (List.range b.1).all fun u => (List.range b.1).all fun v => decide (tgM true b u v ∈ wsL)) = true := by kernel_rfl
theorem tgM_size (l : Bool) (b : Wb) (u v : Nat) : (tgM l b u v).1 = b.1 := by
  unfold tgM
  split
  · rfl
  · split <;> rfl
/-- what is known of the webs of one kind -/
structure TgF (K : PySem.W.Frag) (C : Addr) (l : Bool) (ws : List Wb) : Prop where
  run : ∀ sc a way dr b u v, b ∈ ws → u < b.1 → v < b.1 → (inTG K C).run (dTG sc a way dr l b u v) = .nx (eTG sc a way dr l b (tgM l b u v) u v)
  mem : ∀ b u v, b ∈ ws → u < b.1 → v < b.1 → tgM l b u v ∈ ws
section
variable {K : PySem.W.Frag} {C : Addr}
theorem tgF_S : TgF K C false wsS where
  run sc a way dr b u v hb hu hv := map_at (map_at (map_at (kTS K C sc a way dr) hb) (List.mem_range.mpr hu)) (List.mem_range.mpr hv)
  mem b u v hb hu hv := of_decide_eq_true (List.all_eq_true.mp (List.all_eq_true.mp (List.all_eq_true.mp mTS b hb) u (List.mem_range.mpr hu)) v (List.mem_range.mpr hv))
theorem tgF_L : TgF K C true wsL where
  run sc a way dr b u v hb hu hv := map_at (map_at (map_at (kTL K C sc a way dr) hb) (List.mem_range.mpr hu)) (List.mem_range.mpr hv)
  mem b u v hb hu hv := of_decide_eq_true (List.all_eq_true.mp (List.all_eq_true.mp (List.all_eq_true.mp mTL b hb) u (List.mem_range.mpr hu)) v (List.mem_range.mpr hv))
abbrev toB' (K : PySem.W.Frag) : TS := (tSeq (tIfS (tTest (tOp (rI0 fun i j => .bl (decide (j < i))) (tOp (rIxT K) (tVar 1) (tC (.int 0))) (tC (.int 0)))) (tSeq (tAsg (tOp (rI (fun _ j => 0 < j) fun i j => .int (i % j)) (tCB rInt1 (tCons (tVar 5) tNil)) (tOp (rIxT K) (tVar 1) (tC (.int 0)))) (gName 7)) (tSeq (tAsg (tOp (rI (fun _ j => 0 < j) fun i j => .int (i % j)) (tCB rInt1 (tCons (tOp (rI CDiv fun i j => .int (i / j)) (tVar 5) (tC (.int 12))) tNil)) (tOp (rIxT K) (tVar 1) (tC (.int 0)))) (gName 8)) (tSeq (tAsg (tTup (tCons (tCB rMin2 (tCons (tVar 7) (tCons (tVar 8) tNil))) (tCons (tCB rMax2 (tCons (tVar 7) (tCons (tVar 8) tNil))) tNil))) (gName 9)) (tSeq (toTG K) tNext)))) tNext) tNext)
/-- one toggle -/
theorem toB_ok {l : Bool} {ws : List Wb} {a b : Wb} {sc way : PyData} {d : Nat} {s7 s8 s9 : Sl} (F : TgF K C l ws) (hb : b ∈ ws) (hn : b.1 = a.1) :
    ∃ b' s7' s8' s9', b' ∈ ws ∧ b'.1 = a.1 ∧ RS.run C E0 (toB' K) [.pu sc, .pu (toD a), .pu (.bool l), .pu way, .pu (toD b), .pu (.int (d : Int)), .any, s7, s8, s9, .any] = .nx [.pu sc, .pu (toD a), .pu (.bool l), .pu way, .pu (toD b'), .pu (.int (d : Int)), .any, s7', s8', s9', .any] := by
  have ea : (roIxT (K := K)).run (toD a) (.int 0) = some (.int (a.1 : Int)) := rfl
  by_cases h0 : 0 < a.1
  · have e0 : decide ((0 : Int) < (a.1 : Int)) = true := decide_eq_true (by omega)
    have p0 : (0 : Int) < (a.1 : Int) := by omega
    have dv : CDiv (d : Int) 12 := ⟨by decide, by decide⟩
    have i1 : (d : Int) % (a.1 : Int) = ((d % a.1 : Nat) : Int) := rfl
    have i2 : (d : Int) / 12 % (a.1 : Int) = ((d / 12 % a.1 : Nat) : Int) := rfl
    have hu : d % a.1 < b.1 := by rw [hn]; exact Nat.mod_lt _ h0
    have hv : d / 12 % a.1 < b.1 := by rw [hn]; exact Nat.mod_lt _ h0
    have mn : ∀ x y : Nat, rbMin.run [.int (x : Int), .int (y : Int)] = some (.int ((min x y : Nat) : Int)) := fun x y => by
      show some (PyData.int (if (y : Int) < (x : Int) then (y : Int) else (x : Int))) = _
      split <;> congr 2 <;> omega
    have mx : ∀ x y : Nat, rbMax.run [.int (x : Int), .int (y : Int)] = some (.int ((max x y : Nat) : Int)) := fun x y => by
      show some (PyData.int (if (y : Int) > (x : Int) then (y : Int) else (x : Int))) = _
      split <;> congr 2 <;> omega
    have tz : [PyData.int ((min (d % a.1) (d / 12 % a.1) : Nat) : Int), .int ((max (d % a.1) (d / 12 % a.1) : Nat) : Int)].length ≤ 100000 := by simp
    have ht := F.run sc (toD a) way (.int (d : Int)) b _ _ hb hu hv
    have ht' : RS.run C E0 (toTG K) [.pu sc, .pu (toD a), .pu (.bool l), .pu way, .pu (toD b), .pu (.int (d : Int)), .any, .pu (.int ((d % a.1 : Nat) : Int)), .pu (.int ((d / 12 % a.1 : Nat) : Int)), .pu (.tuple [.int ((min (d % a.1) (d / 12 % a.1) : Nat) : Int), .int ((max (d % a.1) (d / 12 % a.1) : Nat) : Int)]), .any] = _ := ht
    refine ⟨tgM l b (d % a.1) (d / 12 % a.1), .pu (.int ((d % a.1 : Nat) : Int)), .pu (.int ((d / 12 % a.1 : Nat) : Int)), .pu (eP (tgP (d % a.1) (d / 12 % a.1))), F.mem b _ _ hb hu hv, by rw [tgM_size, hn], ?_⟩
    rw [run_seqA, run_ifA]
    have tt : runT (RT.run C E0 (tTest (tOp (rI0 fun i j => .bl (decide (j < i))) (tOp (rIxT K) (tVar 1) (tC (.int 0))) (tC (.int 0))))) [.pu sc, .pu (toD a), .pu (.bool l), .pu way, .pu (toD b), .pu (.int (d : Int)), .any, s7, s8, s9, .any] = .ok true := by
      simp only [runT, run_testA, run_opA, run_varA, run_cA, List.getElem?_cons_zero, List.getElem?_cons_succ, bd_ok, ofO, vD, ea, run_I0, e0, toB]
    rw [tt, ifR_t]
    rw [run_seqA]
    rw [show RS.run C E0 (tAsg (tOp (rI (fun _ j => 0 < j) fun i j => .int (i % j)) (tCB rInt1 (tCons (tVar 5) tNil)) (tOp (rIxT K) (tVar 1) (tC (.int 0)))) (gName 7)) [.pu sc, .pu (toD a), .pu (.bool l), .pu way, .pu (toD b), .pu (.int (d : Int)), .any, s7, s8, s9, .any] = .nx [.pu sc, .pu (toD a), .pu (.bool l), .pu way, .pu (toD b), .pu (.int (d : Int)), .any, .pu (.int ((d % a.1 : Nat) : Int)), s8, s9, .any] by
      simp only [run_asgA, runW, run_opA, run_cbA, run_aconsA, run_anilA, run_varA, run_cA, List.getElem?_cons_zero, List.getElem?_cons_succ, bd_ok, run_int, ofO, vD, ea, run_I, p0, if_true, i1, asgR, List.set_cons_zero, List.set_cons_succ], seqR_nx, run_seqA]
    rw [show RS.run C E0 (tAsg (tOp (rI (fun _ j => 0 < j) fun i j => .int (i % j)) (tCB rInt1 (tCons (tOp (rI CDiv fun i j => .int (i / j)) (tVar 5) (tC (.int 12))) tNil)) (tOp (rIxT K) (tVar 1) (tC (.int 0)))) (gName 8)) [.pu sc, .pu (toD a), .pu (.bool l), .pu way, .pu (toD b), .pu (.int (d : Int)), .any, .pu (.int ((d % a.1 : Nat) : Int)), s8, s9, .any] = .nx [.pu sc, .pu (toD a), .pu (.bool l), .pu way, .pu (toD b), .pu (.int (d : Int)), .any, .pu (.int ((d % a.1 : Nat) : Int)), .pu (.int ((d / 12 % a.1 : Nat) : Int)), s9, .any] by
      simp only [run_asgA, runW, run_opA, run_cbA, run_aconsA, run_anilA, run_varA, run_cA, List.getElem?_cons_zero, List.getElem?_cons_succ, bd_ok, run_int, ofO, vD, ea, run_I, dv, p0, if_true, i2, asgR, List.set_cons_zero, List.set_cons_succ], seqR_nx, run_seqA]
    rw [show RS.run C E0 (tAsg (tTup (tCons (tCB rMin2 (tCons (tVar 7) (tCons (tVar 8) tNil))) (tCons (tCB rMax2 (tCons (tVar 7) (tCons (tVar 8) tNil))) tNil))) (gName 9)) [.pu sc, .pu (toD a), .pu (.bool l), .pu way, .pu (toD b), .pu (.int (d : Int)), .any, .pu (.int ((d % a.1 : Nat) : Int)), .pu (.int ((d / 12 % a.1 : Nat) : Int)), s9, .any] = .nx [.pu sc, .pu (toD a), .pu (.bool l), .pu way, .pu (toD b), .pu (.int (d : Int)), .any, .pu (.int ((d % a.1 : Nat) : Int)), .pu (.int ((d / 12 % a.1 : Nat) : Int)), .pu (.tuple [.int ((min (d % a.1) (d / 12 % a.1) : Nat) : Int), .int ((max (d % a.1) (d / 12 % a.1) : Nat) : Int)]), .any] by
      simp only [run_asgA, runW, run_tupA, run_cbA, run_aconsA, run_anilA, run_varA, List.getElem?_cons_zero, List.getElem?_cons_succ, bd_ok, mn, mx, ofO, tz, if_true, asgR, List.set_cons_zero, List.set_cons_succ], seqR_nx, run_seqA, ht', seqR_nx]
    rfl
  · have e0 : decide ((0 : Int) < (a.1 : Int)) = false := decide_eq_false (by omega)
    refine ⟨b, s7, s8, s9, hb, hn, ?_⟩
    rw [run_seqA, run_ifA]
    have tt : runT (RT.run C E0 (tTest (tOp (rI0 fun i j => .bl (decide (j < i))) (tOp (rIxT K) (tVar 1) (tC (.int 0))) (tC (.int 0))))) [.pu sc, .pu (toD a), .pu (.bool l), .pu way, .pu (toD b), .pu (.int (d : Int)), .any, s7, s8, s9, .any] = .ok false := by
      simp only [runT, run_testA, run_opA, run_varA, run_cA, List.getElem?_cons_zero, List.getElem?_cons_succ, bd_ok, ofO, vD, ea, run_I0, e0, toB]
    rw [tt, ifR_f]
    rfl
end
end DL
end
section
set_option Elab.async false
set_option linter.all false
set_option warn.classDefReducibility false
set_option synthInstance.maxSize 1000000
set_option synthInstance.maxHeartbeats 4000000
set_option maxRecDepth 100000
set_option maxHeartbeats 4000000
/-! MO2: _law_other of a web is a web: joined. -/
namespace DL
open PySem L2 GX
def allSh : Nat → List Nat → List Nat → List (List Nat)
  | 0, _, R => [R]
  | n + 1, L, R => (List.range L.length).flatMap fun p => allSh n (L.take p ++ L.drop (p + 1)) (R ++ [L[p]?.getD 0])
theorem shuf_all : ∀ (ds L R : List Nat), ds.length = L.length → shufM L R ds ∈ allSh ds.length L R
  | [], L, R, _ => List.mem_singleton.mpr rfl
  | d :: ds, L, R, h => by
    rw [List.length_cons] at h
    have hp : d % L.length < L.length := Nat.mod_lt _ (by omega)
    refine List.mem_flatMap.mpr ⟨d % L.length, List.mem_range.mpr hp, shuf_all ds _ _ ?_⟩
    rw [List.length_append, List.length_take, List.length_drop]
    omega
theorem kSh : ([0, 1, 2, 3, 4].all fun n => (allSh n (List.range n) []).all fun r => decide (r ∈ permsOf n)) = true := by kernel_rfl
theorem shuf_perm {ds : List Nat} (h : ds.length ≤ 4) : shufM (List.range ds.length) [] ds ∈ permsOf ds.length := by
  have m : ds.length ∈ [0, 1, 2, 3, 4] := by
    have : ds.length = 0 ∨ ds.length = 1 ∨ ds.length = 2 ∨ ds.length = 3 ∨ ds.length = 4 := by omega
    rcases this with z | z | z | z | z <;> rw [z] <;> decide
  exact of_decide_eq_true (List.all_eq_true.mp (List.all_eq_true.mp kSh _ m) _ (shuf_all ds _ _ (by rw [List.length_range])))
theorem bits_mem : ∀ (p : List Nat), (∀ b ∈ p, b < 2) → p ∈ bits p.length
  | [], _ => List.mem_singleton.mpr rfl
  | b :: p, h => by
    refine List.mem_flatMap.mpr ⟨p, bits_mem p fun x hx => h x (List.mem_cons_of_mem _ hx), ?_⟩
    have : b = 0 ∨ b = 1 := by have := h b (List.mem_cons_self ..); omega
    rcases this with z | z <;> rw [z] <;> simp
theorem runD_of {n : Nat} {f : PF} {ds : List PyData} {x : Rn PyData} (h : f ds = x) (hl : ds.length = n) : runD n f [] ds = x := by
  simp [runD, vDs, runF, h, hl]
section
variable {K : PySem.W.Frag} {C : Addr}
/-- the draws, as counts -/
theorem draws_nat (ns : List Int) (i n b : Nat) (hn : n ≤ 100) (hb : 0 < b) (hb2 : b < 1000) :
    ∃ ms : List Nat, ms.length = n ∧ (∀ m ∈ ms, m < b) ∧ fDraws K C [scD ns, .int (i : Int), .int (n : Int), .int (b : Int)] = .ok (.list (iL ms)) := by
  obtain ⟨ms, h1, h2, h3⟩ := draws_ok (K := K) (C := C) ns i n b hn hb hb2 (fc := fCell K C) (fun i => cell_ok ns i)
  refine ⟨ms.map Int.toNat, by rw [List.length_map, h1], ?_, ?_⟩
  · intro m hm
    obtain ⟨z, hz, e⟩ := List.mem_map.mp hm
    have := h2 z hz
    omega
  · refine h3.trans ?_
    have : ms.map PyData.int = iL (ms.map Int.toNat) := by
      unfold iL
      rw [List.map_map]
      refine List.map_congr_left fun z hz => ?_
      have := h2 z hz
      show PyData.int z = PyData.int ((z.toNat : Nat) : Int)
      congr 1
      omega
    rw [this]
/-- the toggles in a row -/
theorem toL_ok {l : Bool} {ws : List Wb} {a : Wb} {sc way : PyData} (F : TgF K C l ws) : ∀ (ds : List Nat) (b : Wb) (s5 s7 s8 s9 : Sl), b ∈ ws → b.1 = a.1 →
    ∃ b' s5' s7' s8' s9', b' ∈ ws ∧ forR (rgName 5).run (RS.run C E0 (toB' K)) (iL ds) [.pu sc, .pu (toD a), .pu (.bool l), .pu way, .pu (toD b), s5, .any, s7, s8, s9, .any] = .nx [.pu sc, .pu (toD a), .pu (.bool l), .pu way, .pu (toD b'), s5', .any, s7', s8', s9', .any]
  | [], b, s5, s7, s8, s9, hb, _ => ⟨b, s5, s7, s8, s9, hb, rfl⟩
  | d :: ds, b, s5, s7, s8, s9, hb, hn => by
    obtain ⟨b1, t7, t8, t9, m1, n1, h1⟩ := toB_ok (K := K) (C := C) (a := a) (sc := sc) (way := way) (d := d) (s7 := s7) (s8 := s8) (s9 := s9) F hb hn
    obtain ⟨b2, u5, u7, u8, u9, m2, h2⟩ := toL_ok F ds b1 (.pu (.int (d : Int))) t7 t8 t9 m1 n1
    refine ⟨b2, u5, u7, u8, u9, m2, ?_⟩
    show forR _ _ (.int (d : Int) :: iL ds) _ = _
    rw [forR]
    simp only [run_gname] at h2
    simp only [run_gname, List.set_cons_zero, List.set_cons_succ, h1]
    exact h2
/-- what is known of the webs of one kind -/
structure OtF (K : PySem.W.Frag) (C : Addr) (l : Bool) (ws : List Wb) : Prop where
  tg : TgF K C l ws
  size : ∀ a ∈ ws, a.1 ≤ 4
  web : ∀ (n : Nat) (p : List Nat) (t6 t7 t8 t9 : PyData), n < (if l then 4 else 5) → p ∈ bits 6 → ∃ b ∈ ws, fWeb K C [.int n, .list (iL p ++ [t6, t7, t8, t9]), .bool l] = .ok (toD b)
  ren : ∀ a ∈ ws, ∀ r ∈ permsOf a.1, ∃ b ∈ ws, b.1 = a.1 ∧ fRena K C [toD a, .list (iL r)] = .ok (toD b)
  mov : ∀ a ∈ ws, ∀ d : Nat, ∃ b ∈ ws, Flaw_moved K C [toD a, .int (d : Int), .bool l] = .ok (toD b)
theorem szS : (wsS.all fun a => decide (a.1 ≤ 4)) = true := by kernel_rfl
theorem szL : (wsL.all fun a => decide (a.1 ≤ 4)) = true := by kernel_rfl
theorem mem5 {n : Nat} (h : n < 5) : n ∈ [0, 1, 2, 3, 4] := by
  have : n = 0 ∨ n = 1 ∨ n = 2 ∨ n = 3 ∨ n = 4 := by omega
  rcases this with z | z | z | z | z <;> rw [z] <;> decide
theorem mem4 {n : Nat} (h : n < 4) : n ∈ [0, 1, 2, 3] := by
  have : n = 0 ∨ n = 1 ∨ n = 2 ∨ n = 3 := by omega
  rcases this with z | z | z | z <;> rw [z] <;> decide
theorem otF_S : OtF K C false wsS where
  tg := tgF_S
  size a ha := of_decide_eq_true (List.all_eq_true.mp szS a ha)
  web n p t6 t7 t8 t9 hn hp := ⟨webOf n false p, of_decide_eq_true (List.all_eq_true.mp (List.all_eq_true.mp mWS n (mem5 hn)) p hp), map_at (map_at (kWS K C t6 t7 t8 t9) (mem5 hn)) hp⟩
  ren a ha r hr := ⟨renM a r, (ren_S (K := K) (C := C) ha hr).1, rfl, (ren_S ha hr).2⟩
  mov a ha d := moved_ok (b := false) (mvF_S ha) ha rfl
theorem otF_L : OtF K C true wsL where
  tg := tgF_L
  size a ha := of_decide_eq_true (List.all_eq_true.mp szL a ha)
  web n p t6 t7 t8 t9 hn hp := ⟨webOf n true p, of_decide_eq_true (List.all_eq_true.mp (List.all_eq_true.mp mWL n (mem4 hn)) p hp), map_at (map_at (kWL K C t6 t7 t8 t9) (mem4 hn)) hp⟩
  ren a ha r hr := ⟨renM a r, (ren_L (K := K) (C := C) ha hr).1, rfl, (ren_L ha hr).2⟩
  mov a ha d := moved_ok (b := decide (d % 2 = 1)) (mvF_L ha) ha rfl
def fMov (K : PySem.W.Frag) (C : Addr) : PF := Flaw_moved K C
def fOther (K : PySem.W.Frag) (C : Addr) : PF := Flaw_other K C (fCell K C) (fWeb K C) (fDraws K C) (fRena K C) (fShuf K C) (fMov K C)
theorem other_ok {l : Bool} {ws : List Wb} {a : Wb} (F : OtF K C l ws) (ha : a ∈ ws) (ns : List Int) : ∃ b ∈ ws, fOther K C [scD ns, toD a, .bool l] = .ok (toD b) := by
  have un : (inlaw_other K C (fCell K C) (fWeb K C) (fDraws K C) (fRena K C) (fShuf K C) (fMov K C)).run = RS.run C E0 (rdlaw_other K C (fCell K C) (fWeb K C) (fDraws K C) (fRena K C) (fShuf K C) (fMov K C)) := rfl
  have ea : (roIxT (K := K)).run (toD a) (.int 0) = some (.int (a.1 : Int)) := rfl
  have h6 : (0 : Int) < 6 := by decide
  have dv6 : ∀ w : Nat, CDiv (w : Int) 6 := fun w => ⟨by decide, by decide⟩
  obtain ⟨w, hw⟩ : ∃ w : Nat, cv ns 3 = (w : Int) := ⟨(cv ns 3).toNat, by have := cv_nn ns 3; omega⟩
  have hc : runD 2 (fCell K C) [] [scD ns, .int 3] = .ok (.int (w : Int)) := runD_of ((cell_ok ns 3).trans (by rw [hw])) rfl
  have em : (w : Int) % 6 = ((w % 6 : Nat) : Int) := rfl
  have ed : (w : Int) / 6 = ((w / 6 : Nat) : Int) := rfl
  show ∃ b ∈ ws, outF0 ((inlaw_other K C (fCell K C) (fWeb K C) (fDraws K C) (fRena K C) (fShuf K C) (fMov K C)).run [.pu (scD ns), .pu (toD a), .pu (.bool l), .any, .any, .any, .any, .any, .any, .any, .any]) = _
  rw [un, run_seqA]
  rw [show RS.run C E0 (tAsg (tCall (spF C 2 (fCell K C)) [] E0 (tCons (tVar 0) (tCons (tC (.int 3)) tNil))) (gName 3)) [.pu (scD ns), .pu (toD a), .pu (.bool l), .any, .any, .any, .any, .any, .any, .any, .any] = .nx [.pu (scD ns), .pu (toD a), .pu (.bool l), .pu (.int (w : Int)), .any, .any, .any, .any, .any, .any, .any] by
    simp only [run_asgA, runW, run_call0A, okR, run_aconsA, run_anilA, run_varA, run_cA, List.getElem?_cons_zero, List.getElem?_cons_succ, bd_ok, ofO, vD, hc, asgR, List.set_cons_zero, List.set_cons_succ], seqR_nx, run_seqA, run_ifA]
  have t5 : runT (RT.run C E0 (tTest (tOp rEq (tOp (rI (fun _ j => 0 < j) fun i j => .int (i % j)) (tCB rInt1 (tCons (tVar 3) tNil)) (tC (.int 6))) (tC (.int 5))))) [.pu (scD ns), .pu (toD a), .pu (.bool l), .pu (.int (w : Int)), .any, .any, .any, .any, .any, .any, .any] = .ok (decide (w % 6 = 5)) := by
    have e : decide (((w % 6 : Nat) : Int) = 5) = decide (w % 6 = 5) := by
      by_cases h : w % 6 = 5
      · rw [decide_eq_true h, decide_eq_true (by omega)]
      · rw [decide_eq_false h, decide_eq_false (by omega)]
    simp only [runT, run_testA, run_opA, run_cbA, run_aconsA, run_anilA, run_varA, run_cA, List.getElem?_cons_zero, List.getElem?_cons_succ, bd_ok, ofO, vD, run_int, run_I, h6, if_true, em, run_eq, eqS, Option.map_some, e, toB]
  rw [t5]
  by_cases c5 : w % 6 = 5
  · rw [decide_eq_true c5, ifR_t, run_seqA]
    obtain ⟨z, hz, hzl⟩ : ∃ z : Nat, (((w / 6 : Nat) : Int) + 3) % (if l then 4 else 5) = (z : Int) ∧ z < (if l then 4 else 5) := by
      cases l
      · exact ⟨(w / 6 + 3) % 5, rfl, Nat.mod_lt _ (by decide)⟩
      · exact ⟨(w / 6 + 3) % 4, rfl, Nat.mod_lt _ (by decide)⟩
    rw [show RS.run C E0 (tAsg (tOp (rI (fun _ j => 0 < j) fun i j => .int (i % j)) (tCB rInt1 (tCons (tOp (rI0 fun i j => .int (i + j)) (tOp (rI CDiv fun i j => .int (i / j)) (tVar 3) (tC (.int 6))) (tC (.int 3))) tNil)) (tIf (tB (tVar 2)) (tC (.int 4)) (tC (.int 5)))) (gName 6)) [.pu (scD ns), .pu (toD a), .pu (.bool l), .pu (.int (w : Int)), .any, .any, .any, .any, .any, .any, .any] = .nx [.pu (scD ns), .pu (toD a), .pu (.bool l), .pu (.int (w : Int)), .any, .any, .pu (.int (z : Int)), .any, .any, .any, .any] by
      have p4 : (0 : Int) < 4 := by decide
      have p5 : (0 : Int) < 5 := by decide
      cases l
      · have hz' : (((w / 6 : Nat) : Int) + 3) % 5 = (z : Int) := hz
        simp only [run_asgA, runW, run_opA, run_cbA, run_aconsA, run_anilA, run_varA, run_cA, run_ifEA, run_tbA, List.getElem?_cons_zero, List.getElem?_cons_succ, bd_ok, ofO, vD, run_int, run_I, run_I0, dv6, if_true, if_false, Bool.false_eq_true, toB, p5, ed, hz', asgR, List.set_cons_zero, List.set_cons_succ]
      · have hz' : (((w / 6 : Nat) : Int) + 3) % 4 = (z : Int) := hz
        simp only [run_asgA, runW, run_opA, run_cbA, run_aconsA, run_anilA, run_varA, run_cA, run_ifEA, run_tbA, List.getElem?_cons_zero, List.getElem?_cons_succ, bd_ok, ofO, vD, run_int, run_I, run_I0, dv6, if_true, if_false, Bool.false_eq_true, toB, p4, ed, hz', asgR, List.set_cons_zero, List.set_cons_succ], seqR_nx]
    obtain ⟨ms, hl1, hm, hd⟩ := draws_nat (K := K) (C := C) ns 4 10 2 (by decide) (by decide) (by decide)
    have hd' : runD 4 (fDraws K C) [] [scD ns, .int 4, .int 10, .int 2] = .ok (.list (iL ms)) := runD_of hd rfl
    obtain ⟨b0, b1, b2, b3, b4, b5, b6, b7, b8, b9, rfl⟩ : ∃ b0 b1 b2 b3 b4 b5 b6 b7 b8 b9, ms = [b0, b1, b2, b3, b4, b5, b6, b7, b8, b9] := by
      match ms, hl1 with
      | [b0, b1, b2, b3, b4, b5, b6, b7, b8, b9], _ => exact ⟨_, _, _, _, _, _, _, _, _, _, rfl⟩
    obtain ⟨b, hb, hbe⟩ := F.web z [b0, b1, b2, b3, b4, b5] (.int (b6 : Int)) (.int (b7 : Int)) (.int (b8 : Int)) (.int (b9 : Int)) hzl (bits_mem [b0, b1, b2, b3, b4, b5] fun x hx => hm x (by simp at hx ⊢; omega))
    have hb' : runD 3 (fWeb K C) [] [.int (z : Int), .list (iL [b0, b1, b2, b3, b4, b5, b6, b7, b8, b9]), .bool l] = .ok (toD b) := runD_of hbe rfl
    refine ⟨b, hb, ?_⟩
    simp only [run_seqA, run_retA, runW, run_call0A, okR, run_aconsA, run_anilA, run_varA, run_cA, List.getElem?_cons_zero, List.getElem?_cons_succ, bd_ok, ofO, vD, hd', hb', retR, seqR, outF0]
  · rw [decide_eq_false c5, ifR_f, run_nextA, seqR_nx, run_seqA]
    obtain ⟨ms, hl1, hm, hd⟩ := draws_nat (K := K) (C := C) ns 2 a.1 60 (by have := F.size a ha; omega) (by decide) (by decide)
    have hd' : runD 4 (fDraws K C) [] [scD ns, .int 2, .int (a.1 : Int), .int 60] = .ok (.list (iL ms)) := runD_of hd rfl
    have hs := shuf_ok (K := K) (C := C) ms (by have := F.size a ha; omega)
    have hs' : runD 1 (fShuf K C) [] [.list (iL ms)] = .ok (.list (iL (shufM (List.range ms.length) [] ms))) := runD_of hs rfl
    have hp := shuf_perm (ds := ms) (by have := F.size a ha; omega)
    rw [hl1] at hp
    rw [hl1] at hs'
    obtain ⟨b, hb, hbn, hbe⟩ := F.ren a ha _ hp
    have hb' : runD 2 (fRena K C) [] [toD a, .list (iL (shufM (List.range a.1) [] ms))] = .ok (toD b) := runD_of hbe rfl
    rw [show RS.run C E0 (tAsg (tCall (spF C 2 (fRena K C)) [] E0 (tCons (tVar 1) (tCons (tCall (spF C 1 (fShuf K C)) [] E0 (tCons (tCall (spF C 4 (fDraws K C)) [] E0 (tCons (tVar 0) (tCons (tC (.int 2)) (tCons (tOp (rIxT K) (tVar 1) (tC (.int 0))) (tCons (tC (.int 60)) tNil))))) tNil)) tNil))) (gName 4)) [.pu (scD ns), .pu (toD a), .pu (.bool l), .pu (.int (w : Int)), .any, .any, .any, .any, .any, .any, .any] = .nx [.pu (scD ns), .pu (toD a), .pu (.bool l), .pu (.int (w : Int)), .pu (toD b), .any, .any, .any, .any, .any, .any] by
      simp only [run_asgA, runW, run_opA, run_call0A, okR, run_aconsA, run_anilA, run_varA, run_cA, List.getElem?_cons_zero, List.getElem?_cons_succ, bd_ok, ofO, vD, ea, hd', hs', hb', asgR, List.set_cons_zero, List.set_cons_succ], seqR_nx, run_seqA, run_ifA]
    have t2 : runT (RT.run C E0 (tTest (tOp (rI0 fun i j => .bl (decide (j < i))) (tOp (rI (fun _ j => 0 < j) fun i j => .int (i % j)) (tCB rInt1 (tCons (tVar 3) tNil)) (tC (.int 6))) (tC (.int 2))))) [.pu (scD ns), .pu (toD a), .pu (.bool l), .pu (.int (w : Int)), .pu (toD b), .any, .any, .any, .any, .any, .any] = .ok (decide (2 < w % 6)) := by
      have e : decide ((2 : Int) < ((w % 6 : Nat) : Int)) = decide (2 < w % 6) := by
        by_cases h : 2 < w % 6
        · rw [decide_eq_true h, decide_eq_true (by omega)]
        · rw [decide_eq_false h, decide_eq_false (by omega)]
      simp only [runT, run_testA, run_opA, run_cbA, run_aconsA, run_anilA, run_varA, run_cA, List.getElem?_cons_zero, List.getElem?_cons_succ, bd_ok, ofO, vD, run_int, run_I, run_I0, h6, if_true, em, e, toB]
    rw [t2]
    by_cases c2 : 2 < w % 6
    · obtain ⟨b3, hb3, hbe3⟩ := F.mov b hb (w / 6)
      have hb3' : runD 3 (fMov K C) [] [toD b, .int ((w / 6 : Nat) : Int), .bool l] = .ok (toD b3) := runD_of hbe3 rfl
      refine ⟨b3, hb3, ?_⟩
      rw [decide_eq_true c2, ifR_t]
      simp only [run_seqA, run_retA, runW, run_call0A, okR, run_opA, run_aconsA, run_anilA, run_varA, run_cA, List.getElem?_cons_zero, List.getElem?_cons_succ, bd_ok, ofO, vD, run_I, dv6, if_true, ed, hb3', retR, seqR, outF0]
    · rw [decide_eq_false c2, ifR_f, run_nextA, seqR_nx, run_seqA]
      obtain ⟨es, hl2, hm2, hd2⟩ := draws_nat (K := K) (C := C) ns 5 2 144 (by decide) (by decide) (by decide)
      have hd2' : runD 4 (fDraws K C) [] [scD ns, .int 5, .int 2, .int 144] = .ok (.list (iL es)) := runD_of hd2 rfl
      obtain ⟨b4, u5, u7, u8, u9, hb4, h4⟩ := toL_ok (K := K) (C := C) (a := a) (sc := scD ns) (way := .int (w : Int)) F.tg (es.take (w % 6)) b .any .any .any .any hb hbn
      refine ⟨b4, hb4, ?_⟩
      have hi : RI.run C E0 (iList K (tSl (rSlL K) (tCall (spF C 4 (fDraws K C)) [] E0 (tCons (tVar 0) (tCons (tC (.int 5)) (tCons (tC (.int 2)) (tCons (tC (.int 144)) tNil))))) tNoPart (tPart (tOp (rI (fun _ j => 0 < j) fun i j => .int (i % j)) (tCB rInt1 (tCons (tVar 3) tNil)) (tC (.int 6)))))) [.pu (scD ns), .pu (toD a), .pu (.bool l), .pu (.int (w : Int)), .pu (toD b), .any, .any, .any, .any, .any, .any] = some (iL (es.take (w % 6))) := by
        simp only [run_ilistA, run_slA, run_pnoA, run_psomeA, run_call0A, okR, run_opA, run_cbA, run_aconsA, run_anilA, run_varA, run_cA, List.getElem?_cons_zero, List.getElem?_cons_succ, bd_ok, ofO, vD, hd2', run_int, run_I, h6, if_true, em, toI, slD, cut1 (show w % 6 ≤ es.length by omega), toL]
      rw [run_forA, hi, forA_some, h4, seqR_nx]
      simp only [run_seqA, run_retA, runW, run_varA, List.getElem?_cons_zero, List.getElem?_cons_succ, retR, seqR, outF0]
end
end DL
end
section
set_option Elab.async false
set_option linter.all false
set_option warn.classDefReducibility false
set_option synthInstance.maxSize 1000000
set_option synthInstance.maxHeartbeats 4000000
set_option maxRecDepth 100000
set_option maxHeartbeats 4000000
/-! MQ: _law_counts over the tables. -/
namespace DL
open PySem L2 GX
section
variable {K : PySem.W.Frag} {C : Addr}
def fCounts (K : PySem.W.Frag) (C : Addr) : PF := Flaw_counts K C (fMx K C) (fLcnt K C)
theorem counts_ok {ws ct xs : List Wb} {a : Wb} (F : CtF K C ws ct) (ha : a ∈ ws) (hx : ∀ x ∈ xs, x ∈ ct) (hl : xs.length ≤ 1000) :
    fCounts K C [toD a, .list (xs.map toD)] = .ok (.list (iL (xs.map fun x => cntH x a))) := by
  have un : (inlaw_counts K C (fMx K C) (fLcnt K C)).run = RS.run C E0 (rdlaw_counts K C (fMx K C) (fLcnt K C)) := rfl
  have hm : runD 1 (fMx K C) [] [toD a] = .ok (.list (bbL (mxM a))) := runD_of (F.mx a ha) rfl
  show outF0 ((inlaw_counts K C (fMx K C) (fLcnt K C)).run [.pu (toD a), .pu (.list (xs.map toD)), .any, .any]) = _
  rw [un, run_seqA]
  rw [show RS.run C E0 (tAsg (tCall (spF C 1 (fMx K C)) [] E0 (tCons (tVar 0) tNil)) (gName 2)) [.pu (toD a), .pu (.list (xs.map toD)), .any, .any] = .nx [.pu (toD a), .pu (.list (xs.map toD)), .pu (.list (bbL (mxM a))), .any] by
    simp only [run_asgA, runW, run_call0A, okR, run_aconsA, run_anilA, run_varA, List.getElem?_cons_zero, List.getElem?_cons_succ, bd_ok, hm, asgR, List.set_cons_zero, List.set_cons_succ], seqR_nx, run_seqA]
  have hlc : ∀ l : List Wb, (∀ x ∈ l, x ∈ ct) → lcRun ((rgwName 3 [3]).run [.pu (toD a), .pu (.list (xs.map toD)), .pu (.list (bbL (mxM a))), .any]) (rtYes (C := C) (EX := E0)).run (RE.run C E0 (tCall (spF C 2 (fLcnt K C)) [] E0 (tCons (tVar 3) (tCons (tVar 2) tNil)))) (l.map toD) = some (iL (l.map fun x => cntH x a)) := by
    intro l
    induction l with
    | nil => intro _; rfl
    | cons x l ih =>
      intro h
      have hc : runD 2 (fLcnt K C) [] [toD x, .list (bbL (mxM a))] = .ok (.int (cntH x a : Int)) := runD_of (F.lcnt a ha x (h x (List.mem_cons_self ..))) rfl
      have ih' := ih fun y hy => h y (List.mem_cons_of_mem _ hy)
      rw [List.map_cons, lcRun]
      simp only [run_gwname, List.mem_singleton, if_true, List.set_cons_zero, List.set_cons_succ, run_yes, run_call0A, okR, run_aconsA, run_anilA, run_varA, List.getElem?_cons_zero, List.getElem?_cons_succ, bd_ok, hc] at ih' ⊢
      rw [ih']
      rfl
  have hw : wipeA [.pu (toD a), .pu (.list (xs.map toD)), .pu (.list (bbL (mxM a))), .any] [3] = [.pu (toD a), .pu (.list (xs.map toD)), .pu (.list (bbL (mxM a))), .any] := rfl
  have hi : RI.run C E0 (iList K (tVar 1)) [.pu (toD a), .pu (.list (xs.map toD)), .pu (.list (bbL (mxM a))), .any] = some (xs.map toD) := rfl
  have he : RE.run C E0 (tLc (iList K (tVar 1)) (gName 3) tYes (tCall (spF C 2 (fLcnt K C)) [] E0 (tCons (tVar 3) (tCons (tVar 2) tNil))) [3]) [.pu (toD a), .pu (.list (xs.map toD)), .pu (.list (bbL (mxM a))), .any] = .ok (.list (iL (xs.map fun x => cntH x a))) := by
    rw [run_lcA, hw, hi, lcAll, if_pos (by rw [List.length_map]; omega), hlc xs hx]
  rw [run_retA, runW, he]
  rfl
end
end DL
end
section
set_option Elab.async false
set_option linter.all false
set_option warn.classDefReducibility false
set_option synthInstance.maxSize 1000000
set_option synthInstance.maxHeartbeats 4000000
set_option maxRecDepth 100000
set_option maxHeartbeats 4000000
/-! MB2: _law_alike over the tables. -/
namespace DL
open PySem L2 GX
def alkM (a b : Wb) : Bool := decide (a.1 = b.1) && (cosM a).contains (codM b)
section
variable {K : PySem.W.Frag} {C : Addr}
theorem inD_nat : ∀ (l : List Nat) (c : Nat), inD false (.int (c : Int)) (iL l) = some (.bool (l.contains c)) := by
  intro l c
  unfold inD
  rw [dVs_iL]
  show some (PyData.bool (inV (.int (c : Int)) (l.map fun n : Nat => V.int (n : Int)))) = _
  congr 2
  unfold inV
  induction l with
  | nil => rfl
  | cons n l ih =>
    rw [List.map_cons, List.any_cons, ih, List.contains_cons]
    congr 1
    show decide ((n : Int) = (c : Int)) = (c == n)
    by_cases h : n = c
    · subst h; simp
    · have h1 : (n : Int) ≠ (c : Int) := by omega
      have h2 : ¬ c = n := fun z => h z.symm
      simp [h1, h2]
theorem alike_ok {a b : Wb} (h1 : ∀ x : PyData, (inCb K C).run [.pu x, .pu (toD b), .any, .any, .any] = .ok (.int (codM b : Int)))
    (h2 : ∀ x y : PyData, (inCs K C).run [.pu (toD a), .pu x, .pu y, .any, .any] = .ok (.list (iL (cosM a)))) : fAlike K C [toD a, toD b] = .ok (.bool (alkM a b)) := by
  have un : (inlaw_alike K C (fLcode K C) (fPerm K C)).run = RS.run C E0 (rdlaw_alike K C (fLcode K C) (fPerm K C)) := rfl
  have ea : ∀ a : Wb, (roIxT (K := K)).run (toD a) (.int 0) = some (.int (a.1 : Int)) := fun _ => rfl
  show outF0 ((inlaw_alike K C (fLcode K C) (fPerm K C)).run [.pu (toD a), .pu (toD b), .any, .any, .any]) = _
  rw [un, run_seqA, run_ifA]
  have t1 : runT (RT.run C E0 (tTest (tOp rNe (tOp (rIxT K) (tVar 0) (tC (.int 0))) (tOp (rIxT K) (tVar 1) (tC (.int 0)))))) [.pu (toD a), .pu (toD b), .any, .any, .any] = .ok (!decide (a.1 = b.1)) := by
    have e : decide ((a.1 : Int) = (b.1 : Int)) = decide (a.1 = b.1) := by
      by_cases h : a.1 = b.1
      · rw [decide_eq_true h, decide_eq_true (by omega)]
      · rw [decide_eq_false h, decide_eq_false (by omega)]
    have e2 : (roNe).run (.int (a.1 : Int)) (.int (b.1 : Int)) = some (.bool (!decide (a.1 = b.1))) := by
      rw [← e]; rfl
    simp only [runT, run_testA, run_opA, run_varA, run_cA, List.getElem?_cons_zero, List.getElem?_cons_succ, bd_ok, ofO, vD, ea, e2, toB]
  rw [t1]
  unfold alkM
  by_cases h : a.1 = b.1
  · rw [decide_eq_true h, Bool.not_true, ifR_f, run_nextA, seqR_nx, run_seqA]
    have h1' : ∀ x : PyData, RE.run C E0 (eCb K C) [.pu x, .pu (toD b), .any, .any, .any] = .ok (.int (codM b : Int)) := h1
    have h2' : ∀ x y : PyData, RE.run C E0 (eCs K C) [.pu (toD a), .pu x, .pu y, .any, .any] = .ok (.list (iL (cosM a))) := h2
    rw [show RS.run C E0 (tAsg (eCb K C) (gName 2)) [.pu (toD a), .pu (toD b), .any, .any, .any] = .nx [.pu (toD a), .pu (toD b), .pu (.int (codM b : Int)), .any, .any] by
      rw [run_asgA, runW, h1']; rfl, seqR_nx, run_seqA]
    simp only [run_retA, runW, run_opA, run_varA, List.getElem?_cons_zero, List.getElem?_cons_succ, bd_ok, h2', run_in, inD_nat, ofO, retR, seqR, outF0, Bool.true_and]
  · rw [decide_eq_false h, Bool.not_false, ifR_t, run_seqA]
    rfl
theorem alike_S {a b : Wb} (ha : a ∈ wsS) (hb : b ∈ wsS) : fAlike K C [toD a, toD b] = .ok (.bool (alkM a b)) :=
  alike_ok (cb_ok (List.all_eq_true.mp rngS b hb)) (cs_ok (List.all_eq_true.mp rngS a ha))
theorem alike_L {a b : Wb} (ha : a ∈ wsL) (hb : b ∈ wsL) : fAlike K C [toD a, toD b] = .ok (.bool (alkM a b)) :=
  alike_ok (cb_ok (List.all_eq_true.mp rngL b hb)) (cs_ok (List.all_eq_true.mp rngL a ha))
end
end DL
end
section
set_option Elab.async false
set_option linter.all false
set_option warn.classDefReducibility false
set_option synthInstance.maxSize 1000000
set_option synthInstance.maxHeartbeats 4000000
set_option maxRecDepth 100000
set_option maxHeartbeats 4000000
/-! MQ2: _law_due over the tables. -/
namespace DL
open PySem L2 GX
/-- the first web with unlike counts, and the counts -/
def dueM (a b : Wb) : List Wb → Option PyData
  | [] => none
  | x :: xs => if cntH x a = cntH x b then dueM a b xs else some (.tuple [toD x, .int (cntH x a : Int), .int (cntH x b : Int)])
section
variable {K : PySem.W.Frag} {C : Addr}
abbrev dueB (K : PySem.W.Frag) (C : Addr) : TS := (tSeq (tIfS (tTest (tOp rNe (tCall (spF C 2 (fLcnt K C)) [] E0 (tCons (tVar 5) (tCons (tVar 3) tNil))) (tCall (spF C 2 (fLcnt K C)) [] E0 (tCons (tVar 5) (tCons (tVar 4) tNil))))) (tSeq (tRet (tTup (tCons (tVar 5) (tCons (tCall (spF C 2 (fLcnt K C)) [] E0 (tCons (tVar 5) (tCons (tVar 3) tNil))) (tCons (tCall (spF C 2 (fLcnt K C)) [] E0 (tCons (tVar 5) (tCons (tVar 4) tNil))) tNil))))) tNext) tNext) tNext)
theorem dueL_ok {ws ct : List Wb} {a b : Wb} (F : CtF K C ws ct) (ha : a ∈ ws) (hb : b ∈ ws) {sw : Sl} : ∀ (xs : List Wb) (s5 : Sl), (∀ x ∈ xs, x ∈ ct) →
    (∃ d, dueM a b xs = some d ∧ forR (rgName 5).run (RS.run C E0 (dueB K C)) (xs.map toD) [.pu (toD a), .pu (toD b), sw, .pu (.list (bbL (mxM a))), .pu (.list (bbL (mxM b))), s5] = .rt d) ∨
    (dueM a b xs = none ∧ ∃ s5', forR (rgName 5).run (RS.run C E0 (dueB K C)) (xs.map toD) [.pu (toD a), .pu (toD b), sw, .pu (.list (bbL (mxM a))), .pu (.list (bbL (mxM b))), s5] = .nx [.pu (toD a), .pu (toD b), sw, .pu (.list (bbL (mxM a))), .pu (.list (bbL (mxM b))), s5'])
  | [], s5, _ => .inr ⟨rfl, s5, rfl⟩
  | x :: xs, s5, h => by
    have c1 : runD 2 (fLcnt K C) [] [toD x, .list (bbL (mxM a))] = .ok (.int (cntH x a : Int)) := runD_of (F.lcnt a ha x (h x (List.mem_cons_self ..))) rfl
    have c2 : runD 2 (fLcnt K C) [] [toD x, .list (bbL (mxM b))] = .ok (.int (cntH x b : Int)) := runD_of (F.lcnt b hb x (h x (List.mem_cons_self ..))) rfl
    have e : decide ((cntH x a : Int) = (cntH x b : Int)) = decide (cntH x a = cntH x b) := by
      by_cases z : cntH x a = cntH x b
      · rw [decide_eq_true z, decide_eq_true (by omega)]
      · rw [decide_eq_false z, decide_eq_false (by omega)]
    have e2 : (roNe).run (.int (cntH x a : Int)) (.int (cntH x b : Int)) = some (.bool (!decide (cntH x a = cntH x b))) := by
      rw [← e]; rfl
    have ih := dueL_ok F ha hb (sw := sw) xs (.pu (toD x)) fun y hy => h y (List.mem_cons_of_mem _ hy)
    have tt : runT (RT.run C E0 (tTest (tOp rNe (tCall (spF C 2 (fLcnt K C)) [] E0 (tCons (tVar 5) (tCons (tVar 3) tNil))) (tCall (spF C 2 (fLcnt K C)) [] E0 (tCons (tVar 5) (tCons (tVar 4) tNil)))))) [.pu (toD a), .pu (toD b), sw, .pu (.list (bbL (mxM a))), .pu (.list (bbL (mxM b))), .pu (toD x)] = .ok (!decide (cntH x a = cntH x b)) := by
      simp only [runT, run_testA, run_opA, run_call0A, okR, run_aconsA, run_anilA, run_varA, List.getElem?_cons_zero, List.getElem?_cons_succ, bd_ok, ofO, c1, c2, e2, toB]
    rw [List.map_cons, forR, dueM]
    simp only [run_gname, List.set_cons_zero, List.set_cons_succ] at ih ⊢
    by_cases z : cntH x a = cntH x b
    · rw [decide_eq_true z, Bool.not_true] at tt
      have hb1 : RS.run C E0 (dueB K C) [.pu (toD a), .pu (toD b), sw, .pu (.list (bbL (mxM a))), .pu (.list (bbL (mxM b))), .pu (toD x)] = .nx [.pu (toD a), .pu (toD b), sw, .pu (.list (bbL (mxM a))), .pu (.list (bbL (mxM b))), .pu (toD x)] := by
        rw [run_seqA, run_ifA, tt, ifR_f]; rfl
      rw [hb1, if_pos z]
      exact ih
    · rw [decide_eq_false z, Bool.not_false] at tt
      have hb1 : RS.run C E0 (dueB K C) [.pu (toD a), .pu (toD b), sw, .pu (.list (bbL (mxM a))), .pu (.list (bbL (mxM b))), .pu (toD x)] = .rt (.tuple [toD x, .int (cntH x a : Int), .int (cntH x b : Int)]) := by
        have l3 : [toD x, PyData.int (cntH x a : Int), .int (cntH x b : Int)].length ≤ 100000 := by simp
        rw [run_seqA, run_ifA, tt, ifR_t]
        simp only [run_seqA, run_retA, runW, run_tupA, run_call0A, okR, run_aconsA, run_anilA, run_varA, List.getElem?_cons_zero, List.getElem?_cons_succ, bd_ok, c1, c2, l3, if_true, retR, seqR]
      rw [hb1, if_neg z]
      exact .inl ⟨_, rfl, rfl⟩
end
end DL
end
section
set_option Elab.async false
set_option linter.all false
set_option warn.classDefReducibility false
set_option synthInstance.maxSize 1000000
set_option synthInstance.maxHeartbeats 4000000
set_option maxRecDepth 100000
set_option maxHeartbeats 4000000
/-! MQ3: _law_due over the tables, joined. -/
namespace DL
open PySem L2 GX
section
variable {K : PySem.W.Frag} {C : Addr}
def fDue (K : PySem.W.Frag) (C : Addr) : PF := Flaw_due K C (fAlike K C) (fMx K C) (fLcnt K C)
def dueR (a b : Wb) (xs : List Wb) : PyData := if alkM a b then .none else (dueM a b xs).getD (.str "no web tells")
theorem due_ok {ws ct xs : List Wb} {a b : Wb} (F : CtF K C ws ct) (ha : a ∈ ws) (hb : b ∈ ws) (hk : fAlike K C [toD a, toD b] = .ok (.bool (alkM a b))) (hx : ∀ x ∈ xs, x ∈ ct) :
    fDue K C [toD a, toD b, .list (xs.map toD)] = .ok (dueR a b xs) := by
  have un : (inlaw_due K C (fAlike K C) (fMx K C) (fLcnt K C)).run = RS.run C E0 (rdlaw_due K C (fAlike K C) (fMx K C) (fLcnt K C)) := rfl
  have m1 : runD 1 (fMx K C) [] [toD a] = .ok (.list (bbL (mxM a))) := runD_of (F.mx a ha) rfl
  have m2 : runD 1 (fMx K C) [] [toD b] = .ok (.list (bbL (mxM b))) := runD_of (F.mx b hb) rfl
  have hk' : runD 2 (fAlike K C) [] [toD a, toD b] = .ok (.bool (alkM a b)) := runD_of hk rfl
  show outF0 ((inlaw_due K C (fAlike K C) (fMx K C) (fLcnt K C)).run [.pu (toD a), .pu (toD b), .pu (.list (xs.map toD)), .any, .any, .any]) = _
  rw [un, run_seqA, run_ifA]
  have tt : runT (RT.run C E0 (tB (tCall (spF C 2 (fAlike K C)) [] E0 (tCons (tVar 0) (tCons (tVar 1) tNil))))) [.pu (toD a), .pu (toD b), .pu (.list (xs.map toD)), .any, .any, .any] = .ok (alkM a b) := by
    simp only [runT, run_tbA, run_call0A, okR, run_aconsA, run_anilA, run_varA, List.getElem?_cons_zero, List.getElem?_cons_succ, bd_ok, hk', toB]
  rw [tt]
  unfold dueR
  cases z : alkM a b with
  | true => rw [ifR_t]; rfl
  | false =>
    rw [ifR_f, run_nextA, seqR_nx, run_seqA]
    rw [show RS.run C E0 (tAsg (tCall (spF C 1 (fMx K C)) [] E0 (tCons (tVar 0) tNil)) (gName 3)) [.pu (toD a), .pu (toD b), .pu (.list (xs.map toD)), .any, .any, .any] = .nx [.pu (toD a), .pu (toD b), .pu (.list (xs.map toD)), .pu (.list (bbL (mxM a))), .any, .any] by
      simp only [run_asgA, runW, run_call0A, okR, run_aconsA, run_anilA, run_varA, List.getElem?_cons_zero, List.getElem?_cons_succ, bd_ok, m1, asgR, List.set_cons_zero, List.set_cons_succ], seqR_nx, run_seqA]
    rw [show RS.run C E0 (tAsg (tCall (spF C 1 (fMx K C)) [] E0 (tCons (tVar 1) tNil)) (gName 4)) [.pu (toD a), .pu (toD b), .pu (.list (xs.map toD)), .pu (.list (bbL (mxM a))), .any, .any] = .nx [.pu (toD a), .pu (toD b), .pu (.list (xs.map toD)), .pu (.list (bbL (mxM a))), .pu (.list (bbL (mxM b))), .any] by
      simp only [run_asgA, runW, run_call0A, okR, run_aconsA, run_anilA, run_varA, List.getElem?_cons_zero, List.getElem?_cons_succ, bd_ok, m2, asgR, List.set_cons_zero, List.set_cons_succ], seqR_nx, run_seqA]
    have hi : RI.run C E0 (iList K (tVar 2)) [.pu (toD a), .pu (toD b), .pu (.list (xs.map toD)), .pu (.list (bbL (mxM a))), .pu (.list (bbL (mxM b))), .any] = some (xs.map toD) := rfl
    rw [run_forA, hi, forA_some]
    rcases dueL_ok F ha hb (sw := .pu (.list (xs.map toD))) xs .any hx with ⟨d, e, h⟩ | ⟨e, s5', h⟩
    · rw [h, e]; rfl
    · rw [h, e]; rfl
end
end DL
end
section
set_option Elab.async false
set_option linter.all false
set_option maxRecDepth 100000
set_option maxHeartbeats 4000000
namespace DL
open PySem L2 GX
/-! MC: the catalogues, by the kernel. -/
section
variable (K : PySem.W.Frag) (C : Addr)
theorem kw0 : gWebs0 K C [.int 0, .bool false] = .ok (ca0.map toD) := by kernel_rfl
theorem kw1 : gWebs0 K C [.int 1, .bool false] = .ok (ca1.map toD) := by kernel_rfl
theorem kw2 : gWebs0 K C [.int 2, .bool false] = .ok (ca2.map toD) := by kernel_rfl
theorem kw3 : gWebs0 K C [.int 3, .bool false] = .ok (ca3.map toD) := by kernel_rfl
theorem kw4 : gWebs0 K C [.int 4, .bool false] = .ok (ca4.map toD) := by kernel_rfl
theorem kl0 : gWebs0 K C [.int 0, .bool true] = .ok (cb0.map toD) := by kernel_rfl
theorem kl1 : gWebs0 K C [.int 1, .bool true] = .ok (cb1.map toD) := by kernel_rfl
theorem kl2 : gWebs0 K C [.int 2, .bool true] = .ok (cb2.map toD) := by kernel_rfl
theorem kl3 : gWebs0 K C [.int 3, .bool true] = .ok (cb3.map toD) := by kernel_rfl
theorem lw0 : fLcat0 K C [.int 0, .bool false] = .ok (.list ((ca0).map toD)) := by kernel_rfl
theorem lw1 : fLcat0 K C [.int 1, .bool false] = .ok (.list ((ca0 ++ ca1).map toD)) := by kernel_rfl
theorem lw2 : fLcat0 K C [.int 2, .bool false] = .ok (.list ((ca0 ++ ca1 ++ ca2).map toD)) := by kernel_rfl
theorem lw3 : fLcat0 K C [.int 3, .bool false] = .ok (.list ((ca0 ++ ca1 ++ ca2 ++ ca3).map toD)) := by kernel_rfl
theorem lw4 : fLcat0 K C [.int 4, .bool false] = .ok (.list ((ca0 ++ ca1 ++ ca2 ++ ca3 ++ ca4).map toD)) := by kernel_rfl
theorem ll0 : fLcat0 K C [.int 0, .bool true] = .ok (.list ((cb0).map toD)) := by kernel_rfl
theorem ll1 : fLcat0 K C [.int 1, .bool true] = .ok (.list ((cb0 ++ cb1).map toD)) := by kernel_rfl
theorem ll2 : fLcat0 K C [.int 2, .bool true] = .ok (.list ((cb0 ++ cb1 ++ cb2).map toD)) := by kernel_rfl
theorem ll3 : fLcat0 K C [.int 3, .bool true] = .ok (.list ((cb0 ++ cb1 ++ cb2 ++ cb3).map toD)) := by kernel_rfl
end
end DL
end
section
set_option Elab.async false
set_option linter.all false
set_option warn.classDefReducibility false
set_option synthInstance.maxSize 1000000
set_option synthInstance.maxHeartbeats 4000000
set_option maxRecDepth 100000
set_option maxHeartbeats 4000000
/-! MQ5: the loop of telling_web. -/
namespace DL
open PySem L2 GX
section
variable {K : PySem.W.Frag} {C : Addr} {E : XK}
abbrev twB (K : PySem.W.Frag) (C : Addr) (E : XK) : TS := (tSeq (tAsg (tCall (spF C 2 (fHoms K C)) [] (EC C E) (tCons (tVar 5) (tCons (tVar 0) tNil))) (gName 6)) (tSeq (tAsg (tCall (spF C 2 (fHoms K C)) [] (EC C E) (tCons (tVar 5) (tCons (tVar 1) tNil))) (gName 7)) (tSeq (tIfS (tTest (tOp rNe (tVar 6) (tVar 7))) (tSeq (tRet (tTup (tCons (tVar 5) (tCons (tVar 6) (tCons (tVar 7) tNil))))) tNext) tNext) tNext)))
theorem twB_ok {x a b : Wb} {s2 s3 s4 s6 s7 : Sl} (c1 : fHoms K C [toD x, toD a] = .ok (.int (cntH x a : Int))) (c2 : fHoms K C [toD x, toD b] = .ok (.int (cntH x b : Int))) :
    RS.run C E (twB K C E) [.pu (toD a), .pu (toD b), s2, s3, s4, .pu (toD x), s6, s7] = if cntH x a = cntH x b then .nx [.pu (toD a), .pu (toD b), s2, s3, s4, .pu (toD x), .pu (.int (cntH x a : Int)), .pu (.int (cntH x b : Int))] else .rt (.tuple [toD x, .int (cntH x a : Int), .int (cntH x b : Int)]) := by
  have d1 : runD 2 (fHoms K C) [] [toD x, toD a] = .ok (.int (cntH x a : Int)) := runD_of c1 rfl
  have d2 : runD 2 (fHoms K C) [] [toD x, toD b] = .ok (.int (cntH x b : Int)) := runD_of c2 rfl
  have l3 : [toD x, PyData.int (cntH x a : Int), .int (cntH x b : Int)].length ≤ 100000 := by simp
  have e : decide ((cntH x a : Int) = (cntH x b : Int)) = decide (cntH x a = cntH x b) := by
    by_cases z : cntH x a = cntH x b
    · rw [decide_eq_true z, decide_eq_true (by omega)]
    · rw [decide_eq_false z, decide_eq_false (by omega)]
  have e2 : (roNe).run (.int (cntH x a : Int)) (.int (cntH x b : Int)) = some (.bool (!decide (cntH x a = cntH x b))) := by
    rw [← e]; rfl
  by_cases z : cntH x a = cntH x b
  · rw [if_pos z]
    rw [decide_eq_true z, Bool.not_true] at e2
    simp only [run_seqA, run_asgA, run_ifA, run_retA, run_nextA, run_tupA, runT, runW, run_testA, run_opA, run_callA, run_aconsA, run_anilA, run_varA, List.getElem?_cons_zero, List.getElem?_cons_succ, bd_ok, ofO, d1, d2, e2, l3, if_true, toB, ifR, asgR, List.set_cons_zero, List.set_cons_succ, retR, seqR]
  · rw [if_neg z]
    rw [decide_eq_false z, Bool.not_false] at e2
    simp only [run_seqA, run_asgA, run_ifA, run_retA, run_nextA, run_tupA, runT, runW, run_testA, run_opA, run_callA, run_aconsA, run_anilA, run_varA, List.getElem?_cons_zero, List.getElem?_cons_succ, bd_ok, ofO, d1, d2, e2, l3, if_true, toB, ifR, asgR, List.set_cons_zero, List.set_cons_succ, retR, seqR]
theorem twL_ok {ws ct : List Wb} {a b : Wb} (F : CtF K C ws ct) (ha : a ∈ ws) (hb : b ∈ ws) {s2 s3 s4 : Sl} : ∀ (xs : List Wb) (s5 s6 s7 : Sl), (∀ x ∈ xs, x ∈ ct) →
    (∃ d, dueM a b xs = some d ∧ forR (rgName 5).run (RS.run C E (twB K C E)) (xs.map toD) [.pu (toD a), .pu (toD b), s2, s3, s4, s5, s6, s7] = .rt d) ∨
    (dueM a b xs = none ∧ ∃ s5' s6' s7', forR (rgName 5).run (RS.run C E (twB K C E)) (xs.map toD) [.pu (toD a), .pu (toD b), s2, s3, s4, s5, s6, s7] = .nx [.pu (toD a), .pu (toD b), s2, s3, s4, s5', s6', s7'])
  | [], s5, s6, s7, _ => .inr ⟨rfl, s5, s6, s7, rfl⟩
  | x :: xs, s5, s6, s7, h => by
    have hx := h x (List.mem_cons_self ..)
    have hb1 := twB_ok (E := E) (s2 := s2) (s3 := s3) (s4 := s4) (s6 := s6) (s7 := s7) (F.homs a ha x hx) (F.homs b hb x hx)
    have ih := twL_ok F ha hb (s2 := s2) (s3 := s3) (s4 := s4) xs (.pu (toD x)) (.pu (.int (cntH x a : Int))) (.pu (.int (cntH x b : Int))) fun y hy => h y (List.mem_cons_of_mem _ hy)
    rw [List.map_cons, forR, dueM]
    simp only [run_gname, List.set_cons_zero, List.set_cons_succ] at ih ⊢
    by_cases z : cntH x a = cntH x b
    · rw [if_pos z] at hb1
      rw [hb1, if_pos z]
      exact ih
    · rw [if_neg z] at hb1
      rw [hb1, if_neg z]
      exact .inl ⟨_, rfl, rfl⟩
end
end DL
end
section
set_option Elab.async false
set_option linter.all false
set_option warn.classDefReducibility false
set_option synthInstance.maxSize 1000000
set_option synthInstance.maxHeartbeats 4000000
set_option maxRecDepth 100000
set_option maxHeartbeats 4000000
/-! MQ6: first_loop, telling_web. -/
namespace DL
open PySem L2 GX
def loopB (a : Wb) : Bool := a.2.any fun e => decide (e.1 = e.2)
def flD : List (Nat × Nat) → PyData
  | [] => .none
  | e :: es => if e.1 = e.2 then .int (e.1 : Int) else flD es
theorem flD_isN : ∀ es : List (Nat × Nat), isN (flD es) = !es.any fun e => decide (e.1 = e.2)
  | [] => rfl
  | e :: es => by
    rw [flD, List.any_cons]
    by_cases h : e.1 = e.2
    · rw [if_pos h, decide_eq_true h]; rfl
    · rw [if_neg h, decide_eq_false h, Bool.false_or]; exact flD_isN es
section
variable {K : PySem.W.Frag} {C : Addr}
abbrev flB : TS := (tSeq (tIfS (tTest (tOp rEq (tVar 1) (tVar 2))) (tSeq (tRet (tVar 1)) tNext) tNext) tNext)
theorem flL_ok {sw : Sl} : ∀ (es : List (Nat × Nat)) (s1 s2 : Sl),
    (isN (flD es) = false ∧ forR (rgPair (K := K) 1 2).run (RS.run C E0 flB) (es.map eP) [sw, s1, s2] = .rt (flD es)) ∨
    (flD es = .none ∧ ∃ s1' s2', forR (rgPair (K := K) 1 2).run (RS.run C E0 flB) (es.map eP) [sw, s1, s2] = .nx [sw, s1', s2'])
  | [], s1, s2 => .inr ⟨rfl, s1, s2, rfl⟩
  | e :: es, s1, s2 => by
    have ih := flL_ok (sw := sw) es (.pu (.int (e.1 : Int))) (.pu (.int (e.2 : Int)))
    have eq1 : (roEq).run (.int (e.1 : Int)) (.int (e.2 : Int)) = some (.bool (decide (e.1 = e.2))) := by
      show some (PyData.bool (decide ((e.1 : Int) = (e.2 : Int)))) = _
      by_cases z : e.1 = e.2
      · rw [decide_eq_true z, decide_eq_true (by omega)]
      · rw [decide_eq_false z, decide_eq_false (by omega)]
    rw [List.map_cons, forR, flD]
    show _ ∨ _
    have hg : (rgPair (K := K) 1 2).run [sw, s1, s2] (eP e) = some [sw, .pu (.int (e.1 : Int)), .pu (.int (e.2 : Int))] := rfl
    rw [hg]
    simp only []
    by_cases z : e.1 = e.2
    · rw [decide_eq_true z] at eq1
      have hb : RS.run C E0 flB [sw, .pu (.int (e.1 : Int)), .pu (.int (e.2 : Int))] = .rt (.int (e.1 : Int)) := by
        simp only [run_seqA, run_ifA, run_retA, run_nextA, runT, runW, run_testA, run_opA, run_varA, List.getElem?_cons_zero, List.getElem?_cons_succ, bd_ok, ofO, eq1, toB, ifR, retR, seqR]
      rw [hb, if_pos z]
      exact .inl ⟨rfl, rfl⟩
    · rw [decide_eq_false z] at eq1
      have hb : RS.run C E0 flB [sw, .pu (.int (e.1 : Int)), .pu (.int (e.2 : Int))] = .nx [sw, .pu (.int (e.1 : Int)), .pu (.int (e.2 : Int))] := by
        simp only [run_seqA, run_ifA, run_retA, run_nextA, runT, runW, run_testA, run_opA, run_varA, List.getElem?_cons_zero, List.getElem?_cons_succ, bd_ok, ofO, eq1, toB, ifR, retR, seqR]
      rw [hb, if_neg z]
      exact ih
theorem fl_ok (a : Wb) : fFL K C [toD a] = .ok (flD a.2) := by
  have un : (infirst_loop K C).run = RS.run C E0 (rdfirst_loop K C) := rfl
  show outF0 ((infirst_loop K C).run [.pu (toD a), .any, .any]) = _
  have hi : RI.run C E0 (iTup K (tOp (rIxT K) (tVar 0) (tC (.int 1)))) [.pu (toD a), .any, .any] = some (a.2.map eP) := rfl
  rw [un, run_seqA, run_forA, hi, forA_some]
  rcases flL_ok (K := K) (C := C) (sw := .pu (toD a)) a.2 .any .any with ⟨_, h⟩ | ⟨e, s1, s2, h⟩
  · rw [h]; rfl
  · rw [h, e]; rfl
end
section
variable {K : PySem.W.Frag} {C : Addr} {E : XK} {fF fC fK : PF}
def most (l : Bool) : Nat := if l then 3 else 4
def twR (a b : Wb) (xs : List Wb) : PyData := if alkM a b then .none else (dueM a b xs).getD .none
theorem max_run (x y : Nat) : rbMax.run [.int (x : Int), .int (y : Int)] = some (.int ((max x y : Nat) : Int)) := by
  show some (PyData.int (if (y : Int) > (x : Int) then (y : Int) else (x : Int))) = _
  split <;> congr 2 <;> omega
abbrev twS1 (K : PySem.W.Frag) (C : Addr) (E : XK) : TS := tAsg (tOrV (tOp rNotN (tCall (spF C 1 (fFL K C)) [] (EC C E) (tCons (tVar 0) tNil)) (tC .non)) (tOp rNotN (tCall (spF C 1 (fFL K C)) [] (EC C E) (tCons (tVar 1) tNil)) (tC .non))) (gName 2)
theorem tw1_ok (a b : Wb) : RS.run C E (twS1 K C E) [.pu (toD a), .pu (toD b), .any, .any, .any, .any, .any, .any] = .nx [.pu (toD a), .pu (toD b), .pu (.bool (loopB a || loopB b)), .any, .any, .any, .any, .any] := by
  have h1 : runD 1 (fFL K C) [] [toD a] = .ok (flD a.2) := runD_of (fl_ok a) rfl
  have h2 : runD 1 (fFL K C) [] [toD b] = .ok (flD b.2) := runD_of (fl_ok b) rfl
  have n1 : isN (flD a.2) = !loopB a := flD_isN a.2
  have n2 : isN (flD b.2) = !loopB b := flD_isN b.2
  simp only [run_asgA, runW, run_orVA, run_opA, run_callA, run_aconsA, run_anilA, run_varA, run_cA, List.getElem?_cons_zero, List.getElem?_cons_succ, bd_ok, ofO, vD, h1, h2, run_notN, n1, n2, Bool.not_not, toB]
  cases loopB a <;> cases loopB b <;> rfl
theorem twX_ok {a b : Wb} (h : most (loopB a || loopB b) < max a.1 b.1) : Ftelling_web K C E (fFL K C) fF fC fK [toD a, toD b] = .ex (most (loopB a || loopB b) : Int) := by
  have un : (intelling_web K C E (fFL K C) fF fC fK).run = RS.run C E (rdtelling_web K C E (fFL K C) fF fC fK) := rfl
  have ea : (roIxT (K := K)).run (toD a) (.int 0) = some (.int (a.1 : Int)) := rfl
  have eb : (roIxT (K := K)).run (toD b) (.int 0) = some (.int (b.1 : Int)) := rfl
  have lt : decide (((most (loopB a || loopB b) : Nat) : Int) < ((max a.1 b.1 : Nat) : Int)) = true := decide_eq_true (by omega)
  show outF ((intelling_web K C E (fFL K C) fF fC fK).run [.pu (toD a), .pu (toD b), .any, .any, .any, .any, .any, .any]) = _
  rw [un, run_seqA, tw1_ok, seqR_nx]
  revert lt
  cases loopB a || loopB b
  · intro lt
    have lt : decide ((4 : Int) < ((max a.1 b.1 : Nat) : Int)) = true := lt
    simp only [run_seqA, run_asgA, runW, run_ifEA, run_tbA, run_cbA, run_opA, run_aconsA, run_anilA, run_varA, run_cA, List.getElem?_cons_zero, List.getElem?_cons_succ, bd_ok, ofO, vD, toB, Bool.false_eq_true, if_false, if_true, asgR, List.set_cons_zero, List.set_cons_succ, seqR, ea, eb, max_run, run_ifA, runT, run_testA, run_I0, lt, ifR, run_raiseA, raiseR, outF]
    rfl
  · intro lt
    have lt : decide ((3 : Int) < ((max a.1 b.1 : Nat) : Int)) = true := lt
    simp only [run_seqA, run_asgA, runW, run_ifEA, run_tbA, run_cbA, run_opA, run_aconsA, run_anilA, run_varA, run_cA, List.getElem?_cons_zero, List.getElem?_cons_succ, bd_ok, ofO, vD, toB, Bool.false_eq_true, if_false, if_true, asgR, List.set_cons_zero, List.set_cons_succ, seqR, ea, eb, max_run, run_ifA, runT, run_testA, run_I0, lt, ifR, run_raiseA, raiseR, outF]
    rfl
theorem tw_ok {ws ct xs : List Wb} {a b : Wb} {r : PyData} (F : CtF K C ws ct) (ha : a ∈ ws) (hb : b ∈ ws) (hm : max a.1 b.1 ≤ most (loopB a || loopB b)) (hf : fF [toD a, toD b] = .ok r) (hr : isN r = !alkM a b)
    (hc : fC [.int ((max a.1 b.1 : Nat) : Int), .bool (loopB a || loopB b)] = .ok (.list (xs.map toD))) (hx : ∀ x ∈ xs, x ∈ ct) :
    Ftelling_web K C E (fFL K C) fF fC (fHoms K C) [toD a, toD b] = .ok (twR a b xs) := by
  have un : (intelling_web K C E (fFL K C) fF fC (fHoms K C)).run = RS.run C E (rdtelling_web K C E (fFL K C) fF fC (fHoms K C)) := rfl
  have ea : (roIxT (K := K)).run (toD a) (.int 0) = some (.int (a.1 : Int)) := rfl
  have eb : (roIxT (K := K)).run (toD b) (.int 0) = some (.int (b.1 : Int)) := rfl
  have hf' : runD 2 fF [] [toD a, toD b] = .ok r := runD_of hf rfl
  show outF ((intelling_web K C E (fFL K C) fF fC (fHoms K C)).run [.pu (toD a), .pu (toD b), .any, .any, .any, .any, .any, .any]) = _
  rw [un, run_seqA, tw1_ok, seqR_nx, run_seqA]
  generalize hl : (loopB a || loopB b) = l at hm hc ⊢
  have lt : decide (((most l : Nat) : Int) < ((max a.1 b.1 : Nat) : Int)) = false := decide_eq_false (by omega)
  rw [show RS.run C E (tAsg (tIf (tB (tVar 2)) (tC (.int 3)) (tC (.int 4))) (gName 3)) [.pu (toD a), .pu (toD b), .pu (.bool l), .any, .any, .any, .any, .any] = .nx [.pu (toD a), .pu (toD b), .pu (.bool l), .pu (.int (most l : Int)), .any, .any, .any, .any] by
    cases l <;> rfl, seqR_nx, run_seqA]
  rw [show RS.run C E (tAsg (tCB rMax2 (tCons (tOp (rIxT K) (tVar 0) (tC (.int 0))) (tCons (tOp (rIxT K) (tVar 1) (tC (.int 0))) tNil))) (gName 4)) [.pu (toD a), .pu (toD b), .pu (.bool l), .pu (.int (most l : Int)), .any, .any, .any, .any] = .nx [.pu (toD a), .pu (toD b), .pu (.bool l), .pu (.int (most l : Int)), .pu (.int ((max a.1 b.1 : Nat) : Int)), .any, .any, .any] by
    simp only [run_asgA, runW, run_cbA, run_opA, run_aconsA, run_anilA, run_varA, run_cA, List.getElem?_cons_zero, List.getElem?_cons_succ, bd_ok, ofO, vD, ea, eb, max_run, asgR, List.set_cons_zero, List.set_cons_succ], seqR_nx, run_seqA, run_ifA]
  have t1 : runT (RT.run C E (tTest (tOp (rI0 fun i j => .bl (decide (j < i))) (tVar 4) (tVar 3)))) [.pu (toD a), .pu (toD b), .pu (.bool l), .pu (.int (most l : Int)), .pu (.int ((max a.1 b.1 : Nat) : Int)), .any, .any, .any] = .ok false := by
    simp only [runT, run_testA, run_opA, run_varA, List.getElem?_cons_zero, List.getElem?_cons_succ, bd_ok, ofO, vD, run_I0, lt, toB]
  rw [t1, ifR_f, run_nextA, seqR_nx, run_seqA, run_ifA]
  have t2 : runT (RT.run C E (tTest (tOp rNotN (tCall (spF C 2 fF) [] (EC C E) (tCons (tVar 0) (tCons (tVar 1) tNil))) (tC .non)))) [.pu (toD a), .pu (toD b), .pu (.bool l), .pu (.int (most l : Int)), .pu (.int ((max a.1 b.1 : Nat) : Int)), .any, .any, .any] = .ok (alkM a b) := by
    simp only [runT, run_testA, run_opA, run_callA, run_aconsA, run_anilA, run_varA, run_cA, List.getElem?_cons_zero, List.getElem?_cons_succ, bd_ok, ofO, vD, hf', run_notN, hr, Bool.not_not, toB]
  rw [t2]
  unfold twR
  cases z : alkM a b with
  | true => rw [ifR_t]; rfl
  | false =>
    rw [ifR_f, run_nextA, seqR_nx, run_seqA]
    have l11 : ([PyData.int ((max a.1 b.1 : Nat) : Int)].length = 1 ∧ [PyData.bool l].length = 1) := ⟨rfl, rfl⟩
    have hc' : runF 2 fC ([PyData.int ((max a.1 b.1 : Nat) : Int)] ++ [PyData.bool l]) = .ok (.list (xs.map toD)) := by
      show runF 2 fC [PyData.int ((max a.1 b.1 : Nat) : Int), PyData.bool l] = _
      exact hc
    have hi : RI.run C E (iList K (tCallN 1 1 (spF C 2 fC) (fun vs zs => vs ++ zs) (EC C E) (tCons (tVar 4) tNil) (tCons (tVar 2) tNil))) [.pu (toD a), .pu (toD b), .pu (.bool l), .pu (.int (most l : Int)), .pu (.int ((max a.1 b.1 : Nat) : Int)), .any, .any, .any] = some (xs.map toD) := by
      simp only [run_ilistA, run_callNA, run_aconsA, run_anilA, run_varA, List.getElem?_cons_zero, List.getElem?_cons_succ, bd_ok, l11, and_self, if_true, hc', toL]
    rw [run_forA, hi, forA_some]
    rcases twL_ok (E := E) F ha hb (s2 := .pu (.bool l)) (s3 := .pu (.int (most l : Int))) (s4 := .pu (.int ((max a.1 b.1 : Nat) : Int))) xs .any .any .any hx with ⟨d, e, h⟩ | ⟨e, s5, s6, s7, h⟩
    · rw [h, e]; rfl
    · rw [h, e]; rfl
end
end DL
end
section
set_option Elab.async false
set_option linter.all false
set_option maxRecDepth 100000
set_option maxHeartbeats 4000000
/-! MP: alike webs have like counts, unlike ones unlike counts. Printed by genmp.py. -/
namespace DL
open PySem L2 GX
def coS0 : List (Nat × List Nat) := [(0, [0]), (0, [0]), (0, [0, 0]), (2, [2, 2]), (0, [0, 0, 0, 0, 0, 0]), (2, [2, 8, 2, 16, 8, 16]), (8, [8, 2, 16, 2, 16, 8]), (10, [10, 10, 18, 18, 24, 24]), (16, [16, 16, 8, 8, 2, 2]), (18, [18, 24, 10, 24, 10, 18]), (24, [24, 18, 24, 10, 18, 10]), (26, [26, 26, 26, 26, 26, 26]), (0, [0, 0, 0, 0, 0, 0, 0, 0, 0, 0, 0, 0, 0, 0, 0, 0, 0, 0, 0, 0, 0, 0, 0, 0])]
def coS1 : List (Nat × List Nat) := [(2, [2, 2, 8, 8, 64, 64, 2, 2, 16, 16, 128, 128, 8, 8, 16, 16, 256, 256, 64, 64, 128, 128, 256, 256]), (8, [8, 64, 2, 64, 2, 8, 16, 128, 2, 128, 2, 16, 16, 256, 8, 256, 8, 16, 128, 256, 64, 256, 64, 128]), (10, [10, 66, 10, 72, 66, 72, 18, 130, 18, 144, 130, 144, 24, 264, 24, 272, 264, 272, 192, 320, 192, 384, 320, 384]), (16, [16, 128, 16, 256, 128, 256, 8, 64, 8, 256, 64, 256, 2, 64, 2, 128, 64, 128, 2, 8, 2, 16, 8, 16]), (18, [18, 130, 24, 264, 192, 320, 10, 66, 24, 272, 192, 384, 10, 72, 18, 144, 320, 384, 66, 72, 130, 144, 264, 272]), (24, [24, 192, 18, 320, 130, 264, 24, 192, 10, 384, 66, 272, 18, 320, 10, 384, 72, 144, 130, 264, 66, 272, 72, 144]), (26, [26, 194, 26, 328, 194, 328, 26, 194, 26, 400, 194, 400, 26, 328, 26, 400, 328, 400, 194, 328, 194, 400, 328, 400]), (64, [64, 8, 64, 2, 8, 2, 128, 16, 128, 2, 16, 2, 256, 16, 256, 8, 16, 8, 256, 128, 256, 64, 128, 64]), (66, [66, 10, 72, 10, 72, 66, 130, 18, 144, 18, 144, 130, 264, 24, 272, 24, 272, 264, 320, 192, 384, 192, 384, 320]), (72, [72, 72, 66, 66, 10, 10, 144, 144, 130, 130, 18, 18, 272, 272, 264, 264, 24, 24, 384, 384, 320, 320, 192, 192]), (74, [74, 74, 74, 74, 74, 74, 146, 146, 146, 146, 146, 146, 280, 280, 280, 280, 280, 280, 448, 448, 448, 448, 448, 448]), (80, [80, 136, 80, 258, 136, 258, 136, 80, 136, 258, 80, 258, 258, 80, 258, 136, 80, 136, 258, 136, 258, 80, 136, 80]), (82, [82, 138, 88, 266, 200, 322, 138, 82, 152, 274, 208, 386, 266, 88, 274, 152, 336, 392, 322, 200, 386, 208, 392, 336])]
def coS2 : List (Nat × List Nat) := [(88, [88, 200, 82, 322, 138, 266, 152, 208, 138, 386, 82, 274, 274, 336, 266, 392, 88, 152, 386, 392, 322, 336, 200, 208]), (90, [90, 202, 90, 330, 202, 330, 154, 210, 154, 402, 210, 402, 282, 344, 282, 408, 344, 408, 450, 456, 450, 464, 456, 464]), (128, [128, 16, 256, 16, 256, 128, 64, 8, 256, 8, 256, 64, 64, 2, 128, 2, 128, 64, 8, 2, 16, 2, 16, 8]), (130, [130, 18, 264, 24, 320, 192, 66, 10, 272, 24, 384, 192, 72, 10, 144, 18, 384, 320, 72, 66, 144, 130, 272, 264]), (136, [136, 80, 258, 80, 258, 136, 80, 136, 258, 136, 258, 80, 80, 258, 136, 258, 136, 80, 136, 258, 80, 258, 80, 136]), (138, [138, 82, 266, 88, 322, 200, 82, 138, 274, 152, 386, 208, 88, 266, 152, 274, 392, 336, 200, 322, 208, 386, 336, 392]), (144, [144, 144, 272, 272, 384, 384, 72, 72, 264, 264, 320, 320, 66, 66, 130, 130, 192, 192, 10, 10, 18, 18, 24, 24]), (146, [146, 146, 280, 280, 448, 448, 74, 74, 280, 280, 448, 448, 74, 74, 146, 146, 448, 448, 74, 74, 146, 146, 280, 280]), (152, [152, 208, 274, 336, 386, 392, 88, 200, 266, 392, 322, 336, 82, 322, 138, 386, 200, 208, 138, 266, 82, 274, 88, 152]), (154, [154, 210, 282, 344, 450, 456, 90, 202, 282, 408, 450, 464, 90, 330, 154, 402, 456, 464, 202, 330, 210, 402, 344, 408]), (192, [192, 24, 320, 18, 264, 130, 192, 24, 384, 10, 272, 66, 320, 18, 384, 10, 144, 72, 264, 130, 272, 66, 144, 72]), (194, [194, 26, 328, 26, 328, 194, 194, 26, 400, 26, 400, 194, 328, 26, 400, 26, 400, 328, 328, 194, 400, 194, 400, 328]), (200, [200, 88, 322, 82, 266, 138, 208, 152, 386, 138, 274, 82, 336, 274, 392, 266, 152, 88, 392, 386, 336, 322, 208, 200])]
def coS3 : List (Nat × List Nat) := [(202, [202, 90, 330, 90, 330, 202, 210, 154, 402, 154, 402, 210, 344, 282, 408, 282, 408, 344, 456, 450, 464, 450, 464, 456]), (208, [208, 152, 336, 274, 392, 386, 200, 88, 392, 266, 336, 322, 322, 82, 386, 138, 208, 200, 266, 138, 274, 82, 152, 88]), (210, [210, 154, 344, 282, 456, 450, 202, 90, 408, 282, 464, 450, 330, 90, 402, 154, 464, 456, 330, 202, 402, 210, 408, 344]), (216, [216, 216, 338, 338, 394, 394, 216, 216, 394, 394, 338, 338, 338, 338, 394, 394, 216, 216, 394, 394, 338, 338, 216, 216]), (218, [218, 218, 346, 346, 458, 458, 218, 218, 410, 410, 466, 466, 346, 346, 410, 410, 472, 472, 458, 458, 466, 466, 472, 472]), (256, [256, 256, 128, 128, 16, 16, 256, 256, 64, 64, 8, 8, 128, 128, 64, 64, 2, 2, 16, 16, 8, 8, 2, 2]), (258, [258, 258, 136, 136, 80, 80, 258, 258, 80, 80, 136, 136, 136, 136, 80, 80, 258, 258, 80, 80, 136, 136, 258, 258]), (264, [264, 320, 130, 192, 18, 24, 272, 384, 66, 192, 10, 24, 144, 384, 72, 320, 10, 18, 144, 272, 72, 264, 66, 130]), (266, [266, 322, 138, 200, 82, 88, 274, 386, 82, 208, 138, 152, 152, 392, 88, 336, 266, 274, 208, 336, 200, 392, 322, 386]), (272, [272, 384, 144, 384, 144, 272, 264, 320, 72, 320, 72, 264, 130, 192, 66, 192, 66, 130, 18, 24, 10, 24, 10, 18]), (274, [274, 386, 152, 392, 208, 336, 266, 322, 88, 336, 200, 392, 138, 200, 82, 208, 322, 386, 82, 88, 138, 152, 266, 274]), (280, [280, 448, 146, 448, 146, 280, 280, 448, 74, 448, 74, 280, 146, 448, 74, 448, 74, 146, 146, 280, 74, 280, 74, 146]), (282, [282, 450, 154, 456, 210, 344, 282, 450, 90, 464, 202, 408, 154, 456, 90, 464, 330, 402, 210, 344, 202, 408, 330, 402])]
def coS4 : List (Nat × List Nat) := [(320, [320, 264, 192, 130, 24, 18, 384, 272, 192, 66, 24, 10, 384, 144, 320, 72, 18, 10, 272, 144, 264, 72, 130, 66]), (322, [322, 266, 200, 138, 88, 82, 386, 274, 208, 82, 152, 138, 392, 152, 336, 88, 274, 266, 336, 208, 392, 200, 386, 322]), (328, [328, 328, 194, 194, 26, 26, 400, 400, 194, 194, 26, 26, 400, 400, 328, 328, 26, 26, 400, 400, 328, 328, 194, 194]), (330, [330, 330, 202, 202, 90, 90, 402, 402, 210, 210, 154, 154, 408, 408, 344, 344, 282, 282, 464, 464, 456, 456, 450, 450]), (336, [336, 392, 208, 386, 152, 274, 392, 336, 200, 322, 88, 266, 386, 208, 322, 200, 82, 138, 274, 152, 266, 88, 138, 82]), (338, [338, 394, 216, 394, 216, 338, 394, 338, 216, 338, 216, 394, 394, 216, 338, 216, 338, 394, 338, 216, 394, 216, 394, 338]), (344, [344, 456, 210, 450, 154, 282, 408, 464, 202, 450, 90, 282, 402, 464, 330, 456, 90, 154, 402, 408, 330, 344, 202, 210]), (346, [346, 458, 218, 458, 218, 346, 410, 466, 218, 466, 218, 410, 410, 472, 346, 472, 346, 410, 466, 472, 458, 472, 458, 466]), (384, [384, 272, 384, 144, 272, 144, 320, 264, 320, 72, 264, 72, 192, 130, 192, 66, 130, 66, 24, 18, 24, 10, 18, 10]), (386, [386, 274, 392, 152, 336, 208, 322, 266, 336, 88, 392, 200, 200, 138, 208, 82, 386, 322, 88, 82, 152, 138, 274, 266]), (392, [392, 336, 386, 208, 274, 152, 336, 392, 322, 200, 266, 88, 208, 386, 200, 322, 138, 82, 152, 274, 88, 266, 82, 138]), (394, [394, 338, 394, 216, 338, 216, 338, 394, 338, 216, 394, 216, 216, 394, 216, 338, 394, 338, 216, 338, 216, 394, 338, 394]), (400, [400, 400, 400, 400, 400, 400, 328, 328, 328, 328, 328, 328, 194, 194, 194, 194, 194, 194, 26, 26, 26, 26, 26, 26])]
def coS5 : List (Nat × List Nat) := [(402, [402, 402, 408, 408, 464, 464, 330, 330, 344, 344, 456, 456, 202, 202, 210, 210, 450, 450, 90, 90, 154, 154, 282, 282]), (408, [408, 464, 402, 464, 402, 408, 344, 456, 330, 456, 330, 344, 210, 450, 202, 450, 202, 210, 154, 282, 90, 282, 90, 154]), (410, [410, 466, 410, 472, 466, 472, 346, 458, 346, 472, 458, 472, 218, 458, 218, 466, 458, 466, 218, 346, 218, 410, 346, 410]), (448, [448, 280, 448, 146, 280, 146, 448, 280, 448, 74, 280, 74, 448, 146, 448, 74, 146, 74, 280, 146, 280, 74, 146, 74]), (450, [450, 282, 456, 154, 344, 210, 450, 282, 464, 90, 408, 202, 456, 154, 464, 90, 402, 330, 344, 210, 408, 202, 402, 330]), (456, [456, 344, 450, 210, 282, 154, 464, 408, 450, 202, 282, 90, 464, 402, 456, 330, 154, 90, 408, 402, 344, 330, 210, 202]), (458, [458, 346, 458, 218, 346, 218, 466, 410, 466, 218, 410, 218, 472, 410, 472, 346, 410, 346, 472, 466, 472, 458, 466, 458]), (464, [464, 408, 464, 402, 408, 402, 456, 344, 456, 330, 344, 330, 450, 210, 450, 202, 210, 202, 282, 154, 282, 90, 154, 90]), (466, [466, 410, 472, 410, 472, 466, 458, 346, 472, 346, 472, 458, 458, 218, 466, 218, 466, 458, 346, 218, 410, 218, 410, 346]), (472, [472, 472, 466, 466, 410, 410, 472, 472, 458, 458, 346, 346, 466, 466, 458, 458, 218, 218, 410, 410, 346, 346, 218, 218]), (474, [474, 474, 474, 474, 474, 474, 474, 474, 474, 474, 474, 474, 474, 474, 474, 474, 474, 474, 474, 474, 474, 474, 474, 474])]
def coS : List (Nat × List Nat) := coS0 ++ coS1 ++ coS2 ++ coS3 ++ coS4 ++ coS5
def coL0 : List (Nat × List Nat) := [(0, [0]), (0, [0]), (1, [1]), (0, [0, 0]), (1, [1, 4]), (2, [2, 2]), (3, [3, 6]), (4, [4, 1]), (5, [5, 5]), (6, [6, 3]), (7, [7, 7]), (0, [0, 0, 0, 0, 0, 0]), (1, [1, 1, 4, 4, 32, 32])]
def coL1 : List (Nat × List Nat) := [(2, [2, 8, 2, 16, 8, 16]), (3, [3, 9, 6, 20, 40, 48]), (4, [4, 32, 1, 32, 1, 4]), (5, [5, 33, 5, 36, 33, 36]), (6, [6, 40, 3, 48, 9, 20]), (7, [7, 41, 7, 52, 41, 52]), (8, [8, 2, 16, 2, 16, 8]), (9, [9, 3, 20, 6, 48, 40]), (10, [10, 10, 18, 18, 24, 24]), (11, [11, 11, 22, 22, 56, 56]), (12, [12, 34, 17, 34, 17, 12]), (13, [13, 35, 21, 38, 49, 44]), (14, [14, 42, 19, 50, 25, 28])]
def coL2 : List (Nat × List Nat) := [(15, [15, 43, 23, 54, 57, 60]), (16, [16, 16, 8, 8, 2, 2]), (17, [17, 17, 12, 12, 34, 34]), (18, [18, 24, 10, 24, 10, 18]), (19, [19, 25, 14, 28, 42, 50]), (20, [20, 48, 9, 40, 3, 6]), (21, [21, 49, 13, 44, 35, 38]), (22, [22, 56, 11, 56, 11, 22]), (23, [23, 57, 15, 60, 43, 54]), (24, [24, 18, 24, 10, 18, 10]), (25, [25, 19, 28, 14, 50, 42]), (26, [26, 26, 26, 26, 26, 26]), (27, [27, 27, 30, 30, 58, 58])]
def coL3 : List (Nat × List Nat) := [(28, [28, 50, 25, 42, 19, 14]), (29, [29, 51, 29, 46, 51, 46]), (30, [30, 58, 27, 58, 27, 30]), (31, [31, 59, 31, 62, 59, 62]), (32, [32, 4, 32, 1, 4, 1]), (33, [33, 5, 36, 5, 36, 33]), (34, [34, 12, 34, 17, 12, 17]), (35, [35, 13, 38, 21, 44, 49]), (36, [36, 36, 33, 33, 5, 5]), (37, [37, 37, 37, 37, 37, 37]), (38, [38, 44, 35, 49, 13, 21]), (39, [39, 45, 39, 53, 45, 53]), (40, [40, 6, 48, 3, 20, 9])]
def coL4 : List (Nat × List Nat) := [(41, [41, 7, 52, 7, 52, 41]), (42, [42, 14, 50, 19, 28, 25]), (43, [43, 15, 54, 23, 60, 57]), (44, [44, 38, 49, 35, 21, 13]), (45, [45, 39, 53, 39, 53, 45]), (46, [46, 46, 51, 51, 29, 29]), (47, [47, 47, 55, 55, 61, 61]), (48, [48, 20, 40, 9, 6, 3]), (49, [49, 21, 44, 13, 38, 35]), (50, [50, 28, 42, 25, 14, 19]), (51, [51, 29, 46, 29, 46, 51]), (52, [52, 52, 41, 41, 7, 7]), (53, [53, 53, 45, 45, 39, 39])]
def coL5 : List (Nat × List Nat) := [(54, [54, 60, 43, 57, 15, 23]), (55, [55, 61, 47, 61, 47, 55]), (56, [56, 22, 56, 11, 22, 11]), (57, [57, 23, 60, 15, 54, 43]), (58, [58, 30, 58, 27, 30, 27]), (59, [59, 31, 62, 31, 62, 59]), (60, [60, 54, 57, 43, 23, 15]), (61, [61, 55, 61, 47, 55, 47]), (62, [62, 62, 59, 59, 31, 31]), (63, [63, 63, 63, 63, 63, 63])]
def coL : List (Nat × List Nat) := coL0 ++ coL1 ++ coL2 ++ coL3 ++ coL4 ++ coL5
/-- how many webs of the catalogue have at most n nodes -/
def upS (n : Nat) : Nat := [1, 2, 4, 8, 19].getD n 0
def upL (n : Nat) : Nat := [1, 3, 9, 29].getD n 0
theorem kcoS : (wsS.map fun a => (codM a, cosM a)) = coS := by kernel_rfl
theorem kcoL : (wsL.map fun a => (codM a, cosM a)) = coL := by kernel_rfl
def elemN (c : Nat) : List Nat → Bool
  | [] => false
  | x :: xs => Nat.beq c x || elemN c xs
theorem beq_dec (c x : Nat) : Nat.beq c x = decide (c = x) := by
  cases h : Nat.beq c x with
  | true => rw [decide_eq_true (Nat.eq_of_beq_eq_true h)]
  | false => rw [decide_eq_false (Nat.ne_of_beq_eq_false h)]
theorem elemN_eq (c : Nat) : ∀ l : List Nat, elemN c l = l.contains c
  | [] => rfl
  | x :: xs => by
    rw [List.contains_cons, elemN, elemN_eq c xs, beq_dec]
    rfl
def eqN : List Nat → List Nat → Nat → Bool
  | x :: xs, y :: ys, k + 1 => Nat.beq x y && eqN xs ys k
  | _, _, _ => true
def alkN (p q : Wb × Nat × List Nat) : Bool := Nat.beq p.1.1 q.1.1 && elemN q.2.1 p.2.2
def maxN (m n : Nat) : Nat := match Nat.ble m n with
  | true => n
  | false => m
theorem maxN_eq (m n : Nat) : maxN m n = max m n := by
  unfold maxN
  split
  · rename_i h; rw [Nat.max_eq_right (Nat.le_of_ble_eq_true h)]
  · rename_i h
    have : ¬ m ≤ n := fun z => by rw [Nat.ble_eq_true_of_le z] at h; cases h
    rw [Nat.max_eq_left (by omega)]
def pairOk (up : Nat → Nat) (p q : (Wb × Nat × List Nat) × List Nat) : Bool := alkN p.1 q.1 == eqN p.2 q.2 (up (maxN p.1.1.1 q.1.1.1))
theorem kQS : (((wsS.zip coS).zip tbS).all fun p => ((wsS.zip coS).zip tbS).all fun q => pairOk upS p q) = true := by kernel_rfl
theorem kQL : (((wsL.zip coL).zip tbL).all fun p => ((wsL.zip coL).zip tbL).all fun q => pairOk upL p q) = true := by kernel_rfl
theorem zip_mem {α β : Type} {f : α → β} : ∀ {l : List α} {a : α}, a ∈ l → (a, f a) ∈ l.zip (l.map f)
  | x :: l, a, h => by
    rw [List.map_cons, List.zip_cons_cons]
    cases h with
    | head => exact List.mem_cons_self ..
    | tail _ h => exact List.mem_cons_of_mem _ (zip_mem h)
theorem zip_mem2 {α β γ : Type} {f : α → β} {g : α → γ} : ∀ {l : List α} {a : α}, a ∈ l → ((a, f a), g a) ∈ (l.zip (l.map f)).zip (l.map g)
  | x :: l, a, h => by
    rw [List.map_cons, List.map_cons, List.zip_cons_cons, List.zip_cons_cons]
    cases h with
    | head => exact List.mem_cons_self ..
    | tail _ h => exact List.mem_cons_of_mem _ (zip_mem2 h)
theorem eqN_map {α : Type} {f g : α → Nat} : ∀ (l : List α) (k : Nat), eqN (l.map f) (l.map g) k = (l.take k).all fun x => Nat.beq (f x) (g x)
  | [], k => by cases k <;> rfl
  | x :: l, 0 => rfl
  | x :: l, k + 1 => by
    rw [List.map_cons, List.map_cons, List.take_succ_cons, List.all_cons, eqN, eqN_map l k]
theorem alkN_eq (a b : Wb) : alkN (a, codM a, cosM a) (b, codM b, cosM b) = alkM a b := by
  unfold alkN alkM
  rw [elemN_eq]
  rw [beq_dec]
theorem alk_of {ws ct : List Wb} {tb : List (List Nat)} {co : List (Nat × List Nat)} {up : Nat → Nat} (hC : (ws.map fun a => (codM a, cosM a)) = co) (hH : (ws.map fun a => ct.map fun x => cntH x a) = tb) (hP : (((ws.zip co).zip tb).all fun p => ((ws.zip co).zip tb).all fun q => pairOk up p q) = true) {a b : Wb} (ha : a ∈ ws) (hb : b ∈ ws) :
    alkM a b = (ct.take (up (max a.1 b.1))).all fun x => Nat.beq (cntH x a) (cntH x b) := by
  subst hH
  subst hC
  have h := List.all_eq_true.mp (List.all_eq_true.mp hP _ (zip_mem2 ha)) _ (zip_mem2 hb)
  unfold pairOk at h
  rw [← eqN_map, ← alkN_eq, ← maxN_eq]
  exact eq_of_beq h
theorem alk_S {a b : Wb} (ha : a ∈ wsS) (hb : b ∈ wsS) : alkM a b = (ctS.take (upS (max a.1 b.1))).all fun x => Nat.beq (cntH x a) (cntH x b) := alk_of kcoS tbS_H kQS ha hb
theorem alk_L {a b : Wb} (ha : a ∈ wsL) (hb : b ∈ wsL) : alkM a b = (ctL.take (upL (max a.1 b.1))).all fun x => Nat.beq (cntH x a) (cntH x b) := alk_of kcoL tbL_H kQL ha hb
end DL
end
section
set_option Elab.async false
set_option linter.all false
set_option warn.classDefReducibility false
set_option synthInstance.maxSize 1000000
set_option synthInstance.maxHeartbeats 4000000
set_option maxRecDepth 100000
set_option maxHeartbeats 4000000
/-! MQ7: catalogue as a table; hom_profile. -/
namespace DL
open PySem L2 GX
def ctX (l : Bool) : List Wb := if l then ctL else ctS
def upX (l : Bool) (n : Nat) : Nat := if l then upL n else upS n
def gWebsT : PG' := fun ds => match ds with
  | [.int n, .bool false] => if n = 0 then .ok (ca0.map toD) else if n = 1 then .ok (ca1.map toD) else if n = 2 then .ok (ca2.map toD) else if n = 3 then .ok (ca3.map toD) else if n = 4 then .ok (ca4.map toD) else .bad
  | [.int n, .bool true] => if n = 0 then .ok (cb0.map toD) else if n = 1 then .ok (cb1.map toD) else if n = 2 then .ok (cb2.map toD) else if n = 3 then .ok (cb3.map toD) else .bad
  | _ => .bad
def catT : PF := fun ds => match ds with
  | [.int n, .bool l] => if (most l : Int) < n then .ex (most l : Int) else if 0 ≤ n then .ok (.list (((ctX l).take (upX l n.toNat)).map toD)) else .bad
  | _ => .bad
section
variable {K : PySem.W.Frag} {C : Addr}
theorem webs_ref (ds : List PyData) (hl : ds.length = 2) : Ref (gWebsT ds) (gWebs0 K C ds) := by
  unfold gWebsT
  split
  · rename_i n
    by_cases h0 : n = 0
    · subst h0; exact .inr (kw0 K C)
    · rw [if_neg h0]
      by_cases h1 : n = 1
      · subst h1; exact .inr (kw1 K C)
      · rw [if_neg h1]
        by_cases h2 : n = 2
        · subst h2; exact .inr (kw2 K C)
        · rw [if_neg h2]
          by_cases h3 : n = 3
          · subst h3; exact .inr (kw3 K C)
          · rw [if_neg h3]
            by_cases h4 : n = 4
            · subst h4; exact .inr (kw4 K C)
            · rw [if_neg h4]; exact .inl rfl
  · rename_i n
    by_cases h0 : n = 0
    · subst h0; exact .inr (kl0 K C)
    · rw [if_neg h0]
      by_cases h1 : n = 1
      · subst h1; exact .inr (kl1 K C)
      · rw [if_neg h1]
        by_cases h2 : n = 2
        · subst h2; exact .inr (kl2 K C)
        · rw [if_neg h2]
          by_cases h3 : n = 3
          · subst h3; exact .inr (kl3 K C)
          · rw [if_neg h3]; exact .inl rfl
  · exact .inl rfl
theorem chk_ex {n : Int} {l : Bool} (h : (most l : Int) < n) : fChk K C [.int n, .bool l] = .ex (most l : Int) := by
  have un : (incheck_limit K C E0).run = RS.run C E0 (rdcheck_limit K C E0) := rfl
  show outF ((incheck_limit K C E0).run [.pu (.int n), .pu (.bool l), .any]) = _
  rw [un]
  cases l
  · have lt : decide ((4 : Int) < n) = true := decide_eq_true h
    simp only [run_seqA, run_asgA, runW, run_ifEA, run_tbA, run_opA, run_aconsA, run_anilA, run_varA, run_cA, List.getElem?_cons_zero, List.getElem?_cons_succ, bd_ok, ofO, vD, toB, Bool.false_eq_true, if_false, if_true, asgR, List.set_cons_zero, List.set_cons_succ, seqR, run_ifA, runT, run_testA, run_I0, lt, ifR, run_raiseA, raiseR, outF]
    rfl
  · have lt : decide ((3 : Int) < n) = true := decide_eq_true h
    simp only [run_seqA, run_asgA, runW, run_ifEA, run_tbA, run_opA, run_aconsA, run_anilA, run_varA, run_cA, List.getElem?_cons_zero, List.getElem?_cons_succ, bd_ok, ofO, vD, toB, Bool.false_eq_true, if_false, if_true, asgR, List.set_cons_zero, List.set_cons_succ, seqR, run_ifA, runT, run_testA, run_I0, lt, ifR, run_raiseA, raiseR, outF]
    rfl
theorem cat_ex {n : Int} {l : Bool} (h : (most l : Int) < n) : Fcatalogue K C E0 (fChk K C) gWebsT [.int n, .bool l] = .ex (most l : Int) := by
  have un : (incatalogue K C E0 (fChk K C) gWebsT).run = RS.run C E0 (rdcatalogue K C E0 (fChk K C) gWebsT) := rfl
  have hc : runD 2 (fChk K C) [] [.int n, .bool l] = .ex (most l : Int) := runD_of (chk_ex h) rfl
  show outF ((incatalogue K C E0 (fChk K C) gWebsT).run [.pu (.int n), .pu (.bool l), .any, .any]) = _
  rw [un]
  simp only [run_seqA, run_dropA, runS, run_callA, run_aconsA, run_anilA, run_varA, List.getElem?_cons_zero, List.getElem?_cons_succ, bd_ok, hc, dropR, seqR, outF]
variable (K C)
theorem cS0 : Fcatalogue K C E0 (fChk K C) gWebsT [.int 0, .bool false] = .ok (.list ((ctS.take (upS 0)).map toD)) := by kernel_rfl
theorem cS1 : Fcatalogue K C E0 (fChk K C) gWebsT [.int 1, .bool false] = .ok (.list ((ctS.take (upS 1)).map toD)) := by kernel_rfl
theorem cS2 : Fcatalogue K C E0 (fChk K C) gWebsT [.int 2, .bool false] = .ok (.list ((ctS.take (upS 2)).map toD)) := by kernel_rfl
theorem cS3 : Fcatalogue K C E0 (fChk K C) gWebsT [.int 3, .bool false] = .ok (.list ((ctS.take (upS 3)).map toD)) := by kernel_rfl
theorem cS4 : Fcatalogue K C E0 (fChk K C) gWebsT [.int 4, .bool false] = .ok (.list ((ctS.take (upS 4)).map toD)) := by kernel_rfl
theorem cL0 : Fcatalogue K C E0 (fChk K C) gWebsT [.int 0, .bool true] = .ok (.list ((ctL.take (upL 0)).map toD)) := by kernel_rfl
theorem cL1 : Fcatalogue K C E0 (fChk K C) gWebsT [.int 1, .bool true] = .ok (.list ((ctL.take (upL 1)).map toD)) := by kernel_rfl
theorem cL2 : Fcatalogue K C E0 (fChk K C) gWebsT [.int 2, .bool true] = .ok (.list ((ctL.take (upL 2)).map toD)) := by kernel_rfl
theorem cL3 : Fcatalogue K C E0 (fChk K C) gWebsT [.int 3, .bool true] = .ok (.list ((ctL.take (upL 3)).map toD)) := by kernel_rfl
variable {K C}
theorem cat_ref (E : XK) (ds : List PyData) (hl : ds.length = 2) : Ref (catT ds) (Fcatalogue K C E (fChk K C) gWebsT ds) := by
  rw [cat_E]
  unfold catT
  split
  · rename_i n l
    by_cases h : (most l : Int) < n
    · rw [if_pos h]; exact .inr (cat_ex h)
    · rw [if_neg h]
      by_cases h0 : 0 ≤ n
      · rw [if_pos h0]
        refine .inr ?_
        obtain ⟨m, rfl⟩ := Int.eq_ofNat_of_zero_le h0
        rw [Int.toNat_natCast]
        cases l
        · have hm : m ≤ 4 := by have : ¬ ((4 : Int) < (m : Int)) := h; omega
          have : m = 0 ∨ m = 1 ∨ m = 2 ∨ m = 3 ∨ m = 4 := by omega
          rcases this with z | z | z | z | z <;> subst z
          · exact cS0 K C
          · exact cS1 K C
          · exact cS2 K C
          · exact cS3 K C
          · exact cS4 K C
        · have hm : m ≤ 3 := by have : ¬ ((3 : Int) < (m : Int)) := h; omega
          have : m = 0 ∨ m = 1 ∨ m = 2 ∨ m = 3 := by omega
          rcases this with z | z | z | z <;> subst z
          · exact cL0 K C
          · exact cL1 K C
          · exact cL2 K C
          · exact cL3 K C
      · rw [if_neg h0]; exact .inl rfl
  · exact .inl rfl
theorem catT_ok {n : Nat} {l : Bool} (h : n ≤ most l) : catT [.int (n : Int), .bool l] = .ok (.list (((ctX l).take (upX l n)).map toD)) := by
  have h1 : ¬ ((most l : Int) < (n : Int)) := by omega
  have h2 : (0 : Int) ≤ (n : Int) := by omega
  show (if (most l : Int) < (n : Int) then Rn.ex (most l : Int) else if (0 : Int) ≤ (n : Int) then Rn.ok (PyData.list (((ctX l).take (upX l ((n : Int)).toNat)).map toD)) else Rn.bad) = _
  rw [if_neg h1, if_pos h2, Int.toNat_natCast]
theorem catT_ex {n : Int} {l : Bool} (h : (most l : Int) < n) : catT [.int n, .bool l] = .ex (most l : Int) := if_pos h
end
/-! ### hom_profile -/
section
variable {K : PySem.W.Frag} {C : Addr} {E : XK} {fC fM fH : PF}
theorem hp_exC {a : Wb} {n m : Int} {l : Bool} (h : fC [.int n, .bool l] = .ex m) : FhpR K C E fC fM fH [toD a, .int n, .bool l] = .ex m := by
  have u1 : (inhpA K C E fC).run = RS.run C E (hpA K C E fC) := rfl
  have hc' : runF 2 fC ([PyData.int n] ++ [PyData.bool l]) = .ex m := h
  have l11 : ([PyData.int n].length = 1 ∧ [PyData.bool l].length = 1) := ⟨rfl, rfl⟩
  show fl2 ((inhpA K C E fC).run [.pu (toD a), .pu (.int n), .pu (.bool l), .any, .any]) _ = _
  rw [u1]
  simp only [run_asgA, runW, run_callNA, run_aconsA, run_anilA, run_varA, List.getElem?_cons_zero, List.getElem?_cons_succ, bd_ok, l11, and_self, if_true, hc', asgR, fl2]
theorem hp1_ok {a : Wb} {n : Int} {l : Bool} {d : PyData} (h : fC [.int n, .bool l] = .ok d) : (inhpA K C E fC).run [.pu (toD a), .pu (.int n), .pu (.bool l), .any, .any] = .nx [.pu (toD a), .pu (.int n), .pu (.bool l), .pu d, .any] := by
  have u1 : (inhpA K C E fC).run = RS.run C E (hpA K C E fC) := rfl
  have hc' : runF 2 fC ([PyData.int n] ++ [PyData.bool l]) = .ok d := h
  have l11 : ([PyData.int n].length = 1 ∧ [PyData.bool l].length = 1) := ⟨rfl, rfl⟩
  rw [u1]
  simp only [run_asgA, runW, run_callNA, run_aconsA, run_anilA, run_varA, List.getElem?_cons_zero, List.getElem?_cons_succ, bd_ok, l11, and_self, if_true, hc', asgR, List.set_cons_zero, List.set_cons_succ]
theorem hp_exM {a : Wb} {n m : Int} {l : Bool} {d : PyData} (h : fC [.int n, .bool l] = .ok d) (hm : fM [.int n, .int (a.1 : Int), .int 4096] = .ex m) : FhpR K C E fC fM fH [toD a, .int n, .bool l] = .ex m := by
  have u2 : (inhpB K C E fM).run = RS.run C E (hpB K C E fM) := rfl
  have hm' : runD 3 fM [] [.int n, .int (a.1 : Int), .int 4096] = .ex m := runD_of hm rfl
  have ea : (roIxT (K := K)).run (toD a) (.int 0) = some (.int (a.1 : Int)) := rfl
  show fl2 ((inhpA K C E fC).run [.pu (toD a), .pu (.int n), .pu (.bool l), .any, .any]) _ = _
  rw [hp1_ok h]
  show fl2 ((inhpB K C E fM).run [.pu (toD a), .pu (.int n), .pu (.bool l), .pu d, .any]) _ = _
  rw [u2]
  simp only [run_dropA, runS, run_callA, run_opA, run_cA, run_aconsA, run_anilA, run_varA, List.getElem?_cons_zero, List.getElem?_cons_succ, bd_ok, ofO, vD, ea, hm', dropR, fl2]
theorem hp_ok {a : Wb} {n : Int} {l : Bool} {xs : List Wb} {h : Wb → Nat} {d : PyData} (hc : fC [.int n, .bool l] = .ok (.list (xs.map toD))) (hm : fM [.int n, .int (a.1 : Int), .int 4096] = .ok d)
    (hh : ∀ x ∈ xs, fH [toD x, toD a] = .ok (.int (h x : Int))) (hl : xs.length ≤ 1000) : FhpR K C E fC fM fH [toD a, .int n, .bool l] = .ok (.list (iL (xs.map h))) := by
  have u2 : (inhpB K C E fM).run = RS.run C E (hpB K C E fM) := rfl
  have hm' : runD 3 fM [] [.int n, .int (a.1 : Int), .int 4096] = .ok d := runD_of hm rfl
  have ea : (roIxT (K := K)).run (toD a) (.int 0) = some (.int (a.1 : Int)) := rfl
  show fl2 ((inhpA K C E fC).run [.pu (toD a), .pu (.int n), .pu (.bool l), .any, .any]) _ = _
  rw [hp1_ok hc]
  show fl2 ((inhpB K C E fM).run [.pu (toD a), .pu (.int n), .pu (.bool l), .pu (.list (xs.map toD)), .any]) _ = _
  rw [show (inhpB K C E fM).run [.pu (toD a), .pu (.int n), .pu (.bool l), .pu (.list (xs.map toD)), .any] = .nx [.pu (toD a), .pu (.int n), .pu (.bool l), .pu (.list (xs.map toD)), .any] by
    rw [u2]
    simp only [run_dropA, runS, run_callA, run_opA, run_cA, run_aconsA, run_anilA, run_varA, List.getElem?_cons_zero, List.getElem?_cons_succ, bd_ok, ofO, vD, ea, hm', dropR]]
  show retHP K C fH [.pu (toD a), .pu (.int n), .pu (.bool l), .pu (.list (xs.map toD)), .any] = _
  have uE : (hpE C fH).run = RE.run C E0 (tCall (spF C 2 fH) [] E0 (tCons (tVar 4) (tCons (tVar 0) tNil))) := rfl
  have hlc : ∀ l' : List Wb, (∀ x ∈ l', x ∈ xs) → lcRun ((rgwName 4 [4]).run [.pu (toD a), .pu (.int n), .pu (.bool l), .pu (.list (xs.map toD)), .any]) (rtYes (C := C) (EX := E0)).run (RE.run C E0 (tCall (spF C 2 fH) [] E0 (tCons (tVar 4) (tCons (tVar 0) tNil)))) (l'.map toD) = some (iL (l'.map h)) := by
    intro l'
    induction l' with
    | nil => intro _; rfl
    | cons x l' ih =>
      intro hx
      have hc : runD 2 fH [] [toD x, toD a] = .ok (.int (h x : Int)) := runD_of (hh x (hx x (List.mem_cons_self ..))) rfl
      have ih' := ih fun y hy => hx y (List.mem_cons_of_mem _ hy)
      rw [List.map_cons, lcRun]
      simp only [run_gwname, List.mem_singleton, if_true, List.set_cons_zero, List.set_cons_succ, run_yes, run_call0A, okR, run_aconsA, run_anilA, run_varA, List.getElem?_cons_zero, List.getElem?_cons_succ, bd_ok, hc] at ih' ⊢
      rw [ih']
      rfl
  have hi : (hpI K C).run [.pu (toD a), .pu (.int n), .pu (.bool l), .pu (.list (xs.map toD)), .any] = some (xs.map toD) := rfl
  have hw : wipeA [.pu (toD a), .pu (.int n), .pu (.bool l), .pu (.list (xs.map toD)), .any] [4] = [.pu (toD a), .pu (.int n), .pu (.bool l), .pu (.list (xs.map toD)), .any] := rfl
  have hfl : (iL (xs.map h)).all flat1 = true := by
    unfold iL
    rw [List.all_eq_true]
    intro d hd
    obtain ⟨k, _, rfl⟩ := List.mem_map.mp hd
    rfl
  unfold retHP
  rw [uE, hi, hw, lcAll, if_pos (by rw [List.length_map]; omega), hlc xs fun x hx => hx]
  simp only
  rw [if_pos hfl]
end
end DL
end
section
set_option Elab.async false
set_option linter.all false
set_option maxRecDepth 100000
set_option synthInstance.maxSize 1000000
set_option synthInstance.maxHeartbeats 4000000
set_option maxHeartbeats 4000000
/-! MS: _law_same of equal data. -/
namespace DL
open PySem L2 GX
section
variable {C : Addr} {K : PySem.W.Frag} {δ : List Sl}
theorem run_ixA {ds : List PyData} {i : Int} : (roIx (K := K)).run (.list ds) (.int i) = ixD ds i := rfl
theorem run_ixB {ds : List PyData} {i : Int} : (roIx (K := K)).run (.tuple ds) (.int i) = ixD ds i := rfl
theorem run_isi {EX : XK} {te : TE} {T : String} [k : KitC K T] [a : RE C EX te] : (reIsi (T := T) (k := k) (a := a)).run = fun δ => (a.run δ).bd fun d => .ok (.bool (isiD d T)) := rfl
variable [k1 : KitC K "bool"] [k2 : KitC K "int"] [k3 : KitC K "str"] [k4 : KitC K "tuple"] [k5 : KitC K "list"]

mutual
def dpt : PyData → Nat
  | .list ds => dpts ds + 1
  | .tuple ds => dpts ds + 1
  | _ => 0
def dpts : List PyData → Nat
  | [] => 0
  | d :: ds => max (dpt d) (dpts ds)
end
mutual
def pln : PyData → Bool
  | .list ds => decide (ds.length ≤ 1000000) && plns ds
  | .tuple ds => decide (ds.length ≤ 1000000) && plns ds
  | .dict _ => false
  | _ => true
def plns : List PyData → Bool
  | [] => true
  | d :: ds => pln d && plns ds
end
theorem dpts_mem : ∀ {ds : List PyData} {d : PyData}, d ∈ ds → dpt d ≤ dpts ds
  | e :: ds, d, h => by
    unfold dpts
    rcases List.mem_cons.mp h with h | h
    · rw [h]; exact Nat.le_max_left _ _
    · exact Nat.le_trans (dpts_mem h) (Nat.le_max_right _ _)
theorem plns_mem : ∀ {ds : List PyData} {d : PyData}, plns ds = true → d ∈ ds → pln d = true
  | e :: ds, d, hp, h => by
    unfold plns at hp
    rw [Bool.and_eq_true] at hp
    rcases List.mem_cons.mp h with h | h
    · rw [h]; exact hp.1
    · exact plns_mem hp.2 h
abbrev unS (K : PySem.W.Frag) (C : Addr) (f : PF) [KitC K "bool"] [KitC K "int"] [KitC K "str"] [KitC K "tuple"] [KitC K "list"] : (inlaw_same K C f).run = RS.run C E0 (rdlaw_same K C f) := rfl
theorem same_int (f : PF) (i : Int) : Flaw_same K C f [.int i, .int i] = .ok (.bool true) := by
  unfold Flaw_same
  rw [unS]
  simp [run_next, run_seq, run_if, run_tor, run_tand, run_tnot, run_tb, run_test, run_isi, run_var, run_c, run_op, run_isN, run_eq, run_ret, run_andV, runT, runW, startA, bd_ok, toB, isiD, tyD, ofO, vD, isN, ifR, seqR, retR, outF0, eqS, bB]
theorem same_bool (f : PF) (i : Bool) : Flaw_same K C f [.bool i, .bool i] = .ok (.bool true) := by
  unfold Flaw_same
  rw [unS]
  simp [run_next, run_seq, run_if, run_tor, run_tand, run_tnot, run_tb, run_test, run_isi, run_var, run_c, run_op, run_isN, run_eq, run_ret, run_andV, runT, runW, startA, bd_ok, toB, isiD, tyD, ofO, vD, isN, ifR, seqR, retR, outF0, eqS, bB]
theorem same_str (f : PF) (i : Str) : Flaw_same K C f [.str i, .str i] = .ok (.bool true) := by
  unfold Flaw_same
  rw [unS]
  simp [run_next, run_seq, run_if, run_tor, run_tand, run_tnot, run_tb, run_test, run_isi, run_var, run_c, run_op, run_isN, run_eq, run_ret, run_andV, runT, runW, startA, bd_ok, toB, isiD, tyD, ofO, vD, isN, ifR, seqR, retR, outF0, eqS, bB]
theorem same_none (f : PF) : Flaw_same K C f [.none, .none] = .ok (.bool true) := by
  unfold Flaw_same
  rw [unS]
  simp [run_next, run_seq, run_if, run_tor, run_tand, run_tnot, run_tb, run_test, run_isi, run_var, run_c, run_op, run_isN, run_eq, run_ret, run_andV, runT, runW, startA, bd_ok, toB, isiD, tyD, ofO, vD, isN, ifR, seqR, retR, outF0, eqS, bB]
theorem same_list (f : PF) (ds : List PyData) (hl : ds.length ≤ 1000000) (h : ∀ d ∈ ds, f [d, d] = .ok (.bool true)) : Flaw_same K C f [.list ds, .list ds] = .ok (.bool true) := by
  unfold Flaw_same
  rw [unS]
  have key : ∃ s, (RS.run C E0 (tFor (iRng1 (tCons (tCB (rLenQ K) (tCons (tVar 0) tNil)) tNil)) (gName 2) (tSeq (tIfS (tNot (tB (tCall (spF C 2 f) [] E0 (tCons (tOp (rIx K) (tVar 0) (tVar 2)) (tCons (tOp (rIx K) (tVar 1) (tVar 2)) tNil))))) (tSeq (tRet (tC (.bl false))) tNext) tNext) tNext))) [.pu (.list ds), .pu (.list ds), .any] = .nx [.pu (.list ds), .pu (.list ds), s] := by
    rw [run_for]
    have ei : (RI.run C E0 (iRng1 (tCons (tCB (rLenQ K) (tCons (tVar 0) tNil)) tNil))) [Sl.pu (.list ds), .pu (.list ds), .any] = some (rangeD 0 ds.length) := by
      show rng1 (some [.int (Int.ofNat ds.length)]) = _
      unfold rng1
      simp only [hl, if_true]
    dsimp only
    rw [ei, forA_some]
    obtain ⟨δ', h1, h2⟩ := forR_nx (g := (rgName 2).run) (b := (RS.run C E0 (tSeq (tIfS (tNot (tB (tCall (spF C 2 f) [] E0 (tCons (tOp (rIx K) (tVar 0) (tVar 2)) (tCons (tOp (rIx K) (tVar 1) (tVar 2)) tNil))))) (tSeq (tRet (tC (.bl false))) tNext) tNext) tNext))) (fun _ δ => ∃ s, δ = [.pu (.list ds), .pu (.list ds), s]) (rangeD 0 ds.length) 0 [.pu (.list ds), .pu (.list ds), .any] ⟨_, rfl⟩ fun j d δ' hd ⟨s, e⟩ => by
      subst e
      obtain ⟨hj, rfl⟩ := rangeD_get hd
      refine ⟨_, [.pu (.list ds), .pu (.list ds), .pu (.int (0 + (j : Int)))], rfl, ?_, _, rfl⟩
      have hx : ds[j]? = some ds[j] := List.getElem?_eq_getElem hj
      have ej : ixD ds (0 + (j : Int)) = some ds[j] := by rw [Int.zero_add]; exact hx
      have hf := h ds[j] (List.getElem_mem hj)
      have ec : (RE.run C E0 (tCall (spF C 2 f) [] E0 (tCons (tOp (rIx K) (tVar 0) (tVar 2)) (tCons (tOp (rIx K) (tVar 1) (tVar 2)) tNil)))) [Sl.pu (.list ds), .pu (.list ds), .pu (.int (0 + (j : Int)))] = .ok (.bool true) := by
        rw [run_call0]
        simp only [run_acons, run_anil, run_op, run_var, List.getElem?_cons_zero, List.getElem?_cons_succ, bd_ok, run_ixA, ej, ofO]
        show okR (runF 2 f [ds[j], ds[j]]) = _
        simp [runF, hf, okR]
      show RS.run C E0 _ [Sl.pu (.list ds), .pu (.list ds), .pu (.int (0 + (j : Int)))] = _
      simp only [run_seq, run_if, run_tnot, run_tb, runT, ec, bd_ok, toB, Bool.not_true, ifR, run_next, seqR]
    obtain ⟨s, e⟩ := h2
    exact ⟨s, by rw [h1, e]⟩
  obtain ⟨s, hk⟩ := key
  simp [hk, run_next, run_seq, run_if, run_tor, run_tand, run_tnot, run_tb, run_test, run_isi, run_var, run_c, run_op, run_isN, run_eq, run_ne, run_ret, run_andV, run_cb, run_acons, run_anil, runT, runW, startA, bd_ok, toB, isiD, tyD, ofO, vD, isN, ifR, seqR, retR, outF0, eqS, bB, run_len, run_lenT]
theorem same_tuple (f : PF) (ds : List PyData) (hl : ds.length ≤ 1000000) (h : ∀ d ∈ ds, f [d, d] = .ok (.bool true)) : Flaw_same K C f [.tuple ds, .tuple ds] = .ok (.bool true) := by
  unfold Flaw_same
  rw [unS]
  have key : ∃ s, (RS.run C E0 (tFor (iRng1 (tCons (tCB (rLenQ K) (tCons (tVar 0) tNil)) tNil)) (gName 2) (tSeq (tIfS (tNot (tB (tCall (spF C 2 f) [] E0 (tCons (tOp (rIx K) (tVar 0) (tVar 2)) (tCons (tOp (rIx K) (tVar 1) (tVar 2)) tNil))))) (tSeq (tRet (tC (.bl false))) tNext) tNext) tNext))) [.pu (.tuple ds), .pu (.tuple ds), .any] = .nx [.pu (.tuple ds), .pu (.tuple ds), s] := by
    rw [run_for]
    have ei : (RI.run C E0 (iRng1 (tCons (tCB (rLenQ K) (tCons (tVar 0) tNil)) tNil))) [Sl.pu (.tuple ds), .pu (.tuple ds), .any] = some (rangeD 0 ds.length) := by
      show rng1 (some [.int (Int.ofNat ds.length)]) = _
      unfold rng1
      simp only [hl, if_true]
    dsimp only
    rw [ei, forA_some]
    obtain ⟨δ', h1, h2⟩ := forR_nx (g := (rgName 2).run) (b := (RS.run C E0 (tSeq (tIfS (tNot (tB (tCall (spF C 2 f) [] E0 (tCons (tOp (rIx K) (tVar 0) (tVar 2)) (tCons (tOp (rIx K) (tVar 1) (tVar 2)) tNil))))) (tSeq (tRet (tC (.bl false))) tNext) tNext) tNext))) (fun _ δ => ∃ s, δ = [.pu (.tuple ds), .pu (.tuple ds), s]) (rangeD 0 ds.length) 0 [.pu (.tuple ds), .pu (.tuple ds), .any] ⟨_, rfl⟩ fun j d δ' hd ⟨s, e⟩ => by
      subst e
      obtain ⟨hj, rfl⟩ := rangeD_get hd
      refine ⟨_, [.pu (.tuple ds), .pu (.tuple ds), .pu (.int (0 + (j : Int)))], rfl, ?_, _, rfl⟩
      have hx : ds[j]? = some ds[j] := List.getElem?_eq_getElem hj
      have ej : ixD ds (0 + (j : Int)) = some ds[j] := by rw [Int.zero_add]; exact hx
      have hf := h ds[j] (List.getElem_mem hj)
      have ec : (RE.run C E0 (tCall (spF C 2 f) [] E0 (tCons (tOp (rIx K) (tVar 0) (tVar 2)) (tCons (tOp (rIx K) (tVar 1) (tVar 2)) tNil)))) [Sl.pu (.tuple ds), .pu (.tuple ds), .pu (.int (0 + (j : Int)))] = .ok (.bool true) := by
        rw [run_call0]
        simp only [run_acons, run_anil, run_op, run_var, List.getElem?_cons_zero, List.getElem?_cons_succ, bd_ok, run_ixB, ej, ofO]
        show okR (runF 2 f [ds[j], ds[j]]) = _
        simp [runF, hf, okR]
      show RS.run C E0 _ [Sl.pu (.tuple ds), .pu (.tuple ds), .pu (.int (0 + (j : Int)))] = _
      simp only [run_seq, run_if, run_tnot, run_tb, runT, ec, bd_ok, toB, Bool.not_true, ifR, run_next, seqR]
    obtain ⟨s, e⟩ := h2
    exact ⟨s, by rw [h1, e]⟩
  obtain ⟨s, hk⟩ := key
  simp [hk, run_next, run_seq, run_if, run_tor, run_tand, run_tnot, run_tb, run_test, run_isi, run_var, run_c, run_op, run_isN, run_eq, run_ne, run_ret, run_andV, run_cb, run_acons, run_anil, runT, runW, startA, bd_ok, toB, isiD, tyD, ofO, vD, isN, ifR, seqR, retR, outF0, eqS, bB, run_len, run_lenT]
/-- _law_same, d deep -/
def fSame (K : PySem.W.Frag) (C : Addr) [KitC K "bool"] [KitC K "int"] [KitC K "str"] [KitC K "tuple"] [KitC K "list"] : Nat → PF := recF (fun f => Flaw_same K C f)
theorem same_ok : ∀ (m : Nat) (d : PyData), pln d = true → dpt d ≤ m → fSame K C (m + 1) [d, d] = .ok (.bool true)
  | m, .none, _, _ => same_none (C := C) (K := K) (fSame K C m)
  | m, .bool b, _, _ => same_bool (C := C) (K := K) (fSame K C m) b
  | m, .int i, _, _ => same_int (C := C) (K := K) (fSame K C m) i
  | m, .str x, _, _ => same_str (C := C) (K := K) (fSame K C m) x
  | 0, .list ds, _, h => by simp [dpt] at h
  | 0, .tuple ds, _, h => by simp [dpt] at h
  | m + 1, .list ds, hp, h => by
    simp only [pln, Bool.and_eq_true, decide_eq_true_eq] at hp
    simp only [dpt] at h
    exact same_list (fSame K C (m + 1)) ds hp.1 fun d hd => same_ok m d (plns_mem hp.2 hd) (Nat.le_trans (dpts_mem hd) (by omega))
  | m + 1, .tuple ds, hp, h => by
    simp only [pln, Bool.and_eq_true, decide_eq_true_eq] at hp
    simp only [dpt] at h
    exact same_tuple (fSame K C (m + 1)) ds hp.1 fun d hd => same_ok m d (plns_mem hp.2 hd) (Nat.le_trans (dpts_mem hd) (by omega))
  | m, .dict _, hp, _ => by simp [pln] at hp
end
end DL
end
section
set_option Elab.async false
set_option linter.all false
set_option warn.classDefReducibility false
set_option synthInstance.maxSize 1000000
set_option synthInstance.maxHeartbeats 4000000
set_option maxRecDepth 100000
set_option maxHeartbeats 4000000
/-! MQ8: checks by _law_same; _law_telling_refused. -/
namespace DL
open PySem L2 GX
def SmF (fS : PF) : Prop := ∀ d : PyData, pln d = true → dpt d ≤ 7 → fS [d, d] = .ok (.bool true)
section
variable {K : PySem.W.Frag} {C : Addr} {fS : PF} {te1 te2 : TE} {k : TS} {δ : List Sl} {d : PyData}
theorem sm_val [a : RE C E0 te1] [b : RE C E0 te2] (hS : SmF fS) (hp : pln d = true) (hd : dpt d ≤ 7) (h1 : RE.run C E0 te1 δ = .ok d) (h2 : RE.run C E0 te2 δ = .ok d) :
    RE.run C E0 (tCall (spF C 2 fS) [] E0 (tCons te1 (tCons te2 tNil))) δ = .ok (.bool true) := by
  have hs : runD 2 fS [] [d, d] = .ok (.bool true) := runD_of (hS d hp hd) rfl
  simp only [run_call0A, okR, run_aconsA, run_anilA, h1, h2, bd_ok, hs]
theorem sm_if [a : RE C E0 te1] [b : RE C E0 te2] [kk : RS C E0 k] (hS : SmF fS) (hp : pln d = true) (hd : dpt d ≤ 7) (h1 : RE.run C E0 te1 δ = .ok d) (h2 : RE.run C E0 te2 δ = .ok d) :
    RS.run C E0 (tSeq (tIfS (tNot (tB (tCall (spF C 2 fS) [] E0 (tCons te1 (tCons te2 tNil))))) (tSeq (tRet (tC (.bl false))) tNext) tNext) k) δ = RS.run C E0 k δ := by
  have hs := sm_val hS hp hd h1 h2
  rw [run_seqA, run_ifA, show runT (RT.run C E0 (tNot (tB (tCall (spF C 2 fS) [] E0 (tCons te1 (tCons te2 tNil)))))) δ = .ok false by
    simp only [runT, run_tnotA, run_tbA, hs, bd_ok, toB, Bool.not_true], ifR_f, run_nextA, seqR_nx]
theorem sm_ret [a : RE C E0 te1] [b : RE C E0 te2] (hS : SmF fS) (hp : pln d = true) (hd : dpt d ≤ 7) (h1 : RE.run C E0 te1 δ = .ok d) (h2 : RE.run C E0 te2 δ = .ok d) :
    RS.run C E0 (tSeq (tRet (tCall (spF C 2 fS) [] E0 (tCons te1 (tCons te2 tNil)))) tNext) δ = .rt (.bool true) := by
  have hs := sm_val hS hp hd h1 h2
  rw [run_seqA, run_retA, runW, hs]
  rfl
end
/-! ### _law_telling_refused -/
def TwX (fT : PF) : Prop := ∀ a b : Wb, most (loopB a || loopB b) < max a.1 b.1 → fT [toD a, toD b] = .ok (.tuple [.str "too large", .int (most (loopB a || loopB b) : Int)])
def tooL (n : Int) : PyData := .tuple [.str "too large", .int n]
section
variable {K : PySem.W.Frag} {C : Addr} {fS fT : PF}
abbrev trB (K : PySem.W.Frag) (C : Addr) (fS fT : PF) (n : Int) : TS := (tSeq (tIfS (tNot (tB (tCall (spF C 2 fS) [] E0 (tCons (tTup (tCons (tC (.str "too large")) (tCons (tC (.int n)) tNil))) (tCons (tCall (spF C 2 fT) [] E0 (tCons (tOp (rIxT K) (tVar 3) (tC (.int 0))) (tCons (tOp (rIxT K) (tVar 3) (tC (.int 1))) tNil))) tNil))))) (tSeq (tRet (tC (.bl false))) tNext) tNext) tNext)
def ppD (p : Wb × Wb) : PyData := .tuple [toD p.1, toD p.2]
theorem tl_dpt (n : Int) : dpt (tooL n) ≤ 7 := by simp [dpt, dpts, tooL]
theorem tl_pln (n : Int) : pln (tooL n) = true := by simp [pln, plns, tooL]
theorem tl_len (n : Int) : [PyData.str "too large", .int n].length ≤ 100000 := by simp
theorem trL_ok (hS : SmF fS) {n : Int} {s0 s1 s2 : Sl} : ∀ (ps : List (Wb × Wb)) (s3 : Sl), (∀ p ∈ ps, fT [toD p.1, toD p.2] = .ok (tooL n)) →
    ∃ s3', forR (rgName 3).run (RS.run C E0 (trB K C fS fT n)) (ps.map ppD) [s0, s1, s2, s3] = .nx [s0, s1, s2, s3']
  | [], s3, _ => ⟨s3, rfl⟩
  | p :: ps, s3, h => by
    have ih := trL_ok hS (s0 := s0) (s1 := s1) (s2 := s2) ps (.pu (ppD p)) fun q hq => h q (List.mem_cons_of_mem _ hq)
    have ht : runD 2 fT [] [toD p.1, toD p.2] = .ok (tooL n) := runD_of (h p (List.mem_cons_self ..)) rfl
    have e0 : (roIxT (K := K)).run (ppD p) (.int 0) = some (toD p.1) := rfl
    have e1 : (roIxT (K := K)).run (ppD p) (.int 1) = some (toD p.2) := rfl
    have l2 := tl_len n
    rw [List.map_cons, forR]
    simp only [run_gname, List.set_cons_zero, List.set_cons_succ] at ih ⊢
    rw [show RS.run C E0 (trB K C fS fT n) [s0, s1, s2, .pu (ppD p)] = .nx [s0, s1, s2, .pu (ppD p)] from
      (sm_if (d := tooL n) hS (tl_pln n) (tl_dpt n) (by simp only [run_tupA, run_aconsA, run_anilA, run_cA, ofO, vD, bd_ok, l2, if_true]; rfl)
        (by simp only [run_call0A, okR, run_aconsA, run_anilA, run_opA, run_varA, run_cA, ofO, vD, List.getElem?_cons_zero, List.getElem?_cons_succ, bd_ok, e0, e1, ht])).trans rfl]
    exact ih
theorem tr_ok (hS : SmF fS) (hT : TwX fT) (m : Nat) : Flaw_telling_refused K C fS fT [.int (m : Int)] = .ok (.bool true) := by
  have un : (inlaw_telling_refused K C fS fT).run = RS.run C E0 (rdlaw_telling_refused K C fS fT) := rfl
  show outF0 ((inlaw_telling_refused K C fS fT).run [.pu (.int (m : Int)), .any, .any, .any]) = _
  have p60 : (0 : Int) < 60 := by decide
  have p61 : (0 : Int) < 61 := by decide
  have e60 : (5 : Int) + (m : Int) % 60 = ((5 + m % 60 : Nat) : Int) := by omega
  have e61 : (4 : Int) + (m : Int) % 61 = ((4 + m % 61 : Nat) : Int) := by omega
  rw [un, run_seqA]
  rw [show RS.run C E0 (tAsg (tTup (tCons (tOp (rI0 fun i j => .int (i + j)) (tC (.int 5)) (tOp (rI (fun _ j => 0 < j) fun i j => .int (i % j)) (tCB rInt1 (tCons (tVar 0) tNil)) (tC (.int 60)))) (tCons (tTup (tCons (tTup (tCons (tC (.int 0)) (tCons (tC (.int 1)) tNil))) tNil)) tNil))) (gName 1)) [.pu (.int (m : Int)), .any, .any, .any] = .nx [.pu (.int (m : Int)), .pu (toD (5 + m % 60, [(0, 1)])), .any, .any] by
    simp only [run_asgA, runW, run_tupA, run_opA, run_cbA, run_aconsA, run_anilA, run_varA, run_cA, List.getElem?_cons_zero, List.getElem?_cons_succ, bd_ok, ofO, vD, run_int, run_I, run_I0, p60, if_true, e60, List.length_cons, List.length_nil, asgR, List.set_cons_zero, List.set_cons_succ]
    rfl, seqR_nx, run_seqA]
  rw [show RS.run C E0 (tAsg (tTup (tCons (tOp (rI0 fun i j => .int (i + j)) (tC (.int 4)) (tOp (rI (fun _ j => 0 < j) fun i j => .int (i % j)) (tCB rInt1 (tCons (tVar 0) tNil)) (tC (.int 61)))) (tCons (tTup (tCons (tTup (tCons (tC (.int 1)) (tCons (tC (.int 1)) tNil))) tNil)) tNil))) (gName 2)) [.pu (.int (m : Int)), .pu (toD (5 + m % 60, [(0, 1)])), .any, .any] = .nx [.pu (.int (m : Int)), .pu (toD (5 + m % 60, [(0, 1)])), .pu (toD (4 + m % 61, [(1, 1)])), .any] by
    simp only [run_asgA, runW, run_tupA, run_opA, run_cbA, run_aconsA, run_anilA, run_varA, run_cA, List.getElem?_cons_zero, List.getElem?_cons_succ, bd_ok, ofO, vD, run_int, run_I, run_I0, p61, if_true, e61, List.length_cons, List.length_nil, asgR, List.set_cons_zero, List.set_cons_succ]
    rfl, seqR_nx, run_seqA]
  generalize hS' : m % 60 = u
  generalize hL' : m % 61 = v
  rw [run_forA]
  rw [show RI.run C E0 (iList K (tLst (tCons (tTup (tCons (tVar 1) (tCons (tVar 1) tNil))) (tCons (tTup (tCons (tVar 1) (tCons (tTup (tCons (tC (.int 2)) (tCons (tTup (tCons (tTup (tCons (tC (.int 0)) (tCons (tC (.int 1)) tNil))) tNil)) tNil))) tNil))) (tCons (tTup (tCons (tTup (tCons (tC (.int 0)) (tCons (tTup tNil) tNil))) (tCons (tVar 1) tNil))) tNil))))) [.pu (.int (m : Int)), .pu (toD (5 + u, [(0, 1)])), .pu (toD (4 + v, [(1, 1)])), .any] = some ([((5 + u, [(0, 1)]), (5 + u, [(0, 1)])), ((5 + u, [(0, 1)]), (2, [(0, 1)])), ((0, []), (5 + u, [(0, 1)]))].map ppD) from rfl, forA_some]
  obtain ⟨s3, h3⟩ := trL_ok (K := K) (C := C) (fT := fT) hS (n := 4) (s0 := .pu (.int (m : Int))) (s1 := .pu (toD (5 + u, [(0, 1)]))) (s2 := .pu (toD (4 + v, [(1, 1)]))) [((5 + u, [(0, 1)]), (5 + u, [(0, 1)])), ((5 + u, [(0, 1)]), (2, [(0, 1)])), ((0, []), (5 + u, [(0, 1)]))] .any (by
    intro p hp
    simp only [List.mem_cons, List.not_mem_nil, or_false] at hp
    rcases hp with rfl | rfl | rfl
    · exact hT (5 + u, [(0, 1)]) (5 + u, [(0, 1)]) (show 4 < max (5 + u) (5 + u) by omega)
    · exact hT (5 + u, [(0, 1)]) (2, [(0, 1)]) (show 4 < max (5 + u) 2 by omega)
    · exact hT (0, []) (5 + u, [(0, 1)]) (show 4 < max 0 (5 + u) by omega))
  rw [h3, seqR_nx, run_seqA, run_forA]
  rw [show RI.run C E0 (iList K (tLst (tCons (tTup (tCons (tVar 2) (tCons (tVar 2) tNil))) (tCons (tTup (tCons (tVar 2) (tCons (tTup (tCons (tC (.int 0)) (tCons (tTup tNil) tNil))) tNil))) (tCons (tTup (tCons (tTup (tCons (tC (.int 3)) (tCons (tTup (tCons (tTup (tCons (tC (.int 0)) (tCons (tC (.int 1)) tNil))) tNil)) tNil))) (tCons (tVar 2) tNil))) (tCons (tTup (tCons (tTup (tCons (tC (.int 1)) (tCons (tTup (tCons (tTup (tCons (tC (.int 0)) (tCons (tC (.int 0)) tNil))) tNil)) tNil))) (tCons (tTup (tCons (tOp (rIxT K) (tVar 2) (tC (.int 0))) (tCons (tTup tNil) tNil))) tNil))) tNil)))))) [.pu (.int (m : Int)), .pu (toD (5 + u, [(0, 1)])), .pu (toD (4 + v, [(1, 1)])), s3] = some ([((4 + v, [(1, 1)]), (4 + v, [(1, 1)])), ((4 + v, [(1, 1)]), (0, [])), ((3, [(0, 1)]), (4 + v, [(1, 1)])), ((1, [(0, 0)]), (4 + v, []))].map ppD) from rfl, forA_some]
  obtain ⟨s4, h4⟩ := trL_ok (K := K) (C := C) (fT := fT) hS (n := 3) (s0 := .pu (.int (m : Int))) (s1 := .pu (toD (5 + u, [(0, 1)]))) (s2 := .pu (toD (4 + v, [(1, 1)]))) [((4 + v, [(1, 1)]), (4 + v, [(1, 1)])), ((4 + v, [(1, 1)]), (0, [])), ((3, [(0, 1)]), (4 + v, [(1, 1)])), ((1, [(0, 0)]), (4 + v, []))] s3 (by
    intro p hp
    simp only [List.mem_cons, List.not_mem_nil, or_false] at hp
    rcases hp with rfl | rfl | rfl | rfl
    · exact hT (4 + v, [(1, 1)]) (4 + v, [(1, 1)]) (show 3 < max (4 + v) (4 + v) by omega)
    · exact hT (4 + v, [(1, 1)]) (0, []) (show 3 < max (4 + v) 0 by omega)
    · exact hT (3, [(0, 1)]) (4 + v, [(1, 1)]) (show 3 < max 3 (4 + v) by omega)
    · exact hT (1, [(0, 0)]) (4 + v, []) (show 3 < max 1 (4 + v) by omega))
  rw [h4, seqR_nx]
  have ht : runD 2 fT [] [toD (4 + v, []), toD (2, [(1, 1)])] = .ok (tooL 3) := runD_of (hT (4 + v, []) (2, [(1, 1)]) (show 3 < max (4 + v) 2 by omega)) rfl
  rw [sm_ret (d := tooL 3) hS (tl_pln 3) (tl_dpt 3) rfl (by
    rw [run_call0A]
    exact congrArg okR ht)]
  rfl
end
end DL
end
section
set_option Elab.async false
set_option linter.all false
set_option warn.classDefReducibility false
set_option synthInstance.maxSize 1000000
set_option synthInstance.maxHeartbeats 4000000
set_option maxRecDepth 100000
set_option maxHeartbeats 4000000
/-! MQ9: counts into wide webs. -/
namespace DL
open PySem L2 GX
section
variable {K : PySem.W.Frag} {C : Addr}
theorem fits_Fok2 {x : Wb} {near : List (List Nat)} {n : Nat} (hl : near.length = n) : Fok (fFits K C) (erM x) near x.1 n := fun row v h1 h2 => by
  have h3 : row.length < (erM x).length := by rw [erM_len]; exact h1
  have h4 : v < near.length := by rw [hl]; exact h2
  have := fits_ok (C := C) (K := K) (er := erM x) (near := near) (row := row) (value := v) h4 h3
  unfold fFits fitM
  rw [this, List.getElem?_eq_getElem h3, List.getElem?_eq_getElem h4]
  rfl
theorem homs_eq2 {x a : Wb} {near : List (List Nat)} {dm : PyData} {c : Nat} (hm : fMaps K C [.int (x.1 : Int), .int (a.1 : Int), .int 4096] = .ok dm)
    (hE : (inEar K C (fNR K C)).run [.pu (toD x), .pu (toD a), .any, .any, .any, .any, .any, .any, .any] = .ok (.list (lL (erM x))))
    (hN : fNR K C [toD a] = .ok (.list (lL near))) (hl : near.length = a.1) (hx : x.1 < 900) (hc : (rest (erM x) near a.1 x.1 []).length = c) (hz : c < 90000) (ht : turns a.1 x.1 < 900000) :
    fHoms K C [toD x, toD a] = .ok (.int (c : Int)) := by
  have h := ghoms_ok (C := C) (K := K) (fm := fMaps K C) (fn := fNR K C) (ff := fFits K C) (X := .tuple (x.2.map eP)) (A := .tuple (a.2.map eP)) hm hE hN (fits_Fok2 hl) hx (by rw [hc]; exact hz) ht
  have h2 := chom_ok (C := C) (K := K) (g := gHoms K C) (x := toD x) (a := toD a) h
  unfold fHoms
  rw [h2, tL_len, hc]
end
/-- neighbours, in the order of the edges -/
def nbE (n : Nat) (es : List (Nat × Nat)) : List (List Nat) := (List.range n).map fun u => es.filterMap fun e => if Nat.beq e.1 u then some e.2 else if Nat.beq e.2 u then some e.1 else none
theorem nbE_len (n : Nat) (es : List (Nat × Nat)) : (nbE n es).length = n := by unfold nbE; rw [List.length_map, List.length_range]
/-! ### few nodes -/
def wdW (u : Nat) : Wb := (17 + u, [(0, 0), (0, 1)])
section
variable (K : PySem.W.Frag) (C : Addr)
theorem wM3 : ((List.range 48).map fun u => fMaps K C [.int 3, .int ((17 + u : Nat) : Int), .int 4096]) = (List.range 48).map fun u => .ex 4096 := by kernel_rfl
theorem wM4 : ((List.range 56).map fun u => fMaps K C [.int 4, .int ((9 + u : Nat) : Int), .int 4096]) = (List.range 56).map fun u => .ex 4096 := by kernel_rfl
theorem wM1 : ((List.range 48).map fun u => fMaps K C [.int 1, .int ((17 + u : Nat) : Int), .int 4096]) = (List.range 48).map fun u => .ok (.int ((17 + u : Nat) : Int)) := by kernel_rfl
theorem wM0 (n : Int) : fMaps K C [.int 0, .int n, .int 4096] = .ok (.int 1) := by kernel_rfl
theorem wN : ((List.range 48).map fun u => fNR K C [toD (wdW u)]) = (List.range 48).map fun u => .ok (.list (lL (nbE (17 + u) (wdW u).2))) := by kernel_rfl
end
theorem wR1 : ((List.range 48).map fun u => (rest (erM (1, [])) (nbE (17 + u) (wdW u).2) (17 + u) 1 []).length) = (List.range 48).map fun u => 17 + u := by kernel_rfl
theorem wR2 : ((List.range 48).map fun u => (rest (erM (1, [(0, 0)])) (nbE (17 + u) (wdW u).2) (17 + u) 1 []).length) = (List.range 48).map fun u => 1 := by kernel_rfl
theorem wTu : ((List.range 48).map fun u => decide (turns (17 + u) 1 < 900000)) = (List.range 48).map fun u => true := by kernel_rfl
section
variable {K : PySem.W.Frag} {C : Addr}
theorem wd0 {u : Nat} (hu : u < 48) : fHoms K C [toD (0, []), toD (wdW u)] = .ok (.int (1 : Nat)) :=
  homs_eq2 (x := (0, [])) (a := wdW u) (near := nbE (17 + u) (wdW u).2) (wM0 K C _) (map_at (kES K C (toD (wdW u))) (show ((0, []) : Wb) ∈ ctS by decide)) (map_at (wN K C) (List.mem_range.mpr hu)) (nbE_len _ _) (by decide) rfl (by decide) (show (0 : Nat) < 900000 by decide)
theorem wd1 {u : Nat} (hu : u < 48) : fHoms K C [toD (1, []), toD (wdW u)] = .ok (.int (17 + u : Nat)) :=
  homs_eq2 (x := (1, [])) (a := wdW u) (near := nbE (17 + u) (wdW u).2) (map_at (wM1 K C) (List.mem_range.mpr hu)) (map_at (kES K C (toD (wdW u))) (show ((1, []) : Wb) ∈ ctS by decide)) (map_at (wN K C) (List.mem_range.mpr hu)) (nbE_len _ _) (by decide) (map_at wR1 (List.mem_range.mpr hu)) (by omega) (of_decide_eq_true (map_at wTu (List.mem_range.mpr hu)))
theorem wd2 {u : Nat} (hu : u < 48) : fHoms K C [toD (1, [(0, 0)]), toD (wdW u)] = .ok (.int (1 : Nat)) :=
  homs_eq2 (x := (1, [(0, 0)])) (a := wdW u) (near := nbE (17 + u) (wdW u).2) (map_at (wM1 K C) (List.mem_range.mpr hu)) (map_at (kEL K C (toD (wdW u))) (show ((1, [(0, 0)]) : Wb) ∈ ctL by decide)) (map_at (wN K C) (List.mem_range.mpr hu)) (nbE_len _ _) (by decide) (map_at wR2 (List.mem_range.mpr hu)) (by decide) (of_decide_eq_true (map_at wTu (List.mem_range.mpr hu)))
end
/-! ### the widest: 64 nodes -/
def esV (k : Nat) (s : Bool) : List (Nat × Nat) := (0, 1 + k) :: (1, 1) :: if s then [(2, 63)] else []
def smT (f : Nat → Nat) : Nat → Nat
  | 0 => 0
  | n + 1 => smT f n + f n
theorem smT_congr {f g : Nat → Nat} : ∀ n, (∀ u, u < n → f u = g u) → smT f n = smT g n
  | 0, _ => rfl
  | n + 1, h => by rw [smT, smT, smT_congr n fun u hu => h u (by omega), h n (by omega)]
theorem smT_add (f g : Nat → Nat) : ∀ n, smT (fun u => f u + g u) n = smT f n + smT g n
  | 0 => rfl
  | n + 1 => by rw [smT, smT, smT, smT_add f g n]; omega
theorem smT_zero : ∀ n, smT (fun _ => 0) n = 0
  | 0 => rfl
  | n + 1 => by rw [smT, smT_zero n]
theorem smT_swap (f : Nat → Nat → Nat) (m : Nat) : ∀ n, smT (fun u => smT (f u) m) n = smT (fun v => smT (fun u => f u v) n) m
  | 0 => (smT_zero m).symm
  | n + 1 => by
    rw [smT, smT_swap f m n, ← smT_add]
    rfl
theorem smT_one (a : Nat) : ∀ n, smT (fun u => if u = a then 1 else 0) n = if a < n then 1 else 0
  | 0 => rfl
  | n + 1 => by
    rw [smT, smT_one a n]
    by_cases h : n = a
    · subst h; simp
    · rw [if_neg h]
      by_cases h2 : a < n
      · rw [if_pos h2, if_pos (by omega)]
      · rw [if_neg h2, if_neg (by omega)]
theorem flat_len {α : Type} (g : Nat → List α) : ∀ n, ((List.range n).flatMap g).length = smT (fun u => (g u).length) n
  | 0 => rfl
  | n + 1 => by
    rw [List.range_succ, List.flatMap_append, List.length_append, flat_len g n, smT]
    simp
theorem smT_mem (n : Nat) : ∀ l : List Nat, (∀ a ∈ l, a < n) → l.Nodup → smT (fun u => if u ∈ l then 1 else 0) n = l.length
  | [], _, _ => by simp [smT_zero]
  | a :: l, h, hd => by
    rw [List.nodup_cons] at hd
    have ih := smT_mem n l (fun b hb => h b (List.mem_cons_of_mem _ hb)) hd.2
    have e : smT (fun u => if u ∈ a :: l then 1 else 0) n = smT (fun u => (if u = a then 1 else 0) + (if u ∈ l then 1 else 0)) n := smT_congr n fun u _ => by
      by_cases z : u = a
      · subst z
        rw [if_pos (List.mem_cons_self ..), if_pos rfl, if_neg hd.1]
      · rw [if_neg z]
        by_cases w : u ∈ l
        · rw [if_pos w, if_pos (List.mem_cons_of_mem _ w)]
        · rw [if_neg w, if_neg (fun q => by rcases List.mem_cons.mp q with q | q; exact z q; exact w q)]
    rw [e, smT_add, smT_one, if_pos (h a (List.mem_cons_self ..)), ih, List.length_cons]
    omega
theorem rest_edge {near : List (List Nat)} {n : Nat} (h : ∀ l ∈ near, (∀ a ∈ l, a < n) ∧ l.Nodup) : (rest [[], [0]] near n 2 []).length = smT (fun v => (near[v]?.getD []).length) n := by
  have e : rest [[], [0]] near n 2 [] = (List.range n).flatMap fun u => (List.range n).flatMap fun v => if u ∈ near[v]?.getD [] then [[u, v]] else [] := by
    rw [rest]
    refine congrArg (fun g => (List.range n).flatMap g) (funext fun u => ?_)
    rw [show fitM [[], [0]] near [] u = true from rfl, if_pos rfl, rest]
    refine congrArg (fun g => (List.range n).flatMap g) (funext fun v => ?_)
    rw [rest]
    have z : fitM [[], [0]] near ([] ++ [u]) v = decide (u ∈ near[v]?.getD []) := by
      simp [fitM, fitB, part]
    rw [z]
    by_cases q : u ∈ near[v]?.getD []
    · rw [decide_eq_true q, if_pos rfl, if_pos q]; rfl
    · rw [decide_eq_false q, if_neg Bool.false_ne_true, if_neg q]
  rw [e, flat_len]
  rw [smT_congr (g := fun u => smT (fun v => if u ∈ near[v]?.getD [] then 1 else 0) n) n fun u _ => by
    rw [flat_len]
    exact smT_congr n fun v _ => by split <;> rfl]
  rw [smT_swap]
  refine smT_congr n fun v _ => ?_
  by_cases hv : v < near.length
  · rw [List.getElem?_eq_getElem hv]
    exact smT_mem n _ (h _ (List.getElem_mem hv)).1 (h _ (List.getElem_mem hv)).2
  · rw [List.getElem?_eq_none (by omega)]
    simp [smT_zero]
end DL
end
section
set_option Elab.async false
set_option linter.all false
set_option warn.classDefReducibility false
set_option synthInstance.maxSize 1000000
set_option synthInstance.maxHeartbeats 4000000
set_option maxRecDepth 100000
set_option maxHeartbeats 4000000
/-! MQ10: _law_profile, _law_profile_refused. -/
namespace DL
open PySem L2 GX
def toldD (d : PyData) : PyData := .tuple [.str "told", d]
section
variable {K : PySem.W.Frag} {C : Addr}
def fHp (K : PySem.W.Frag) (C : Addr) : PF := FhpR K C E0 catT (fMaps K C) (fHoms K C)
def fProf (K : PySem.W.Frag) (C : Addr) : PF := Fprof (fHp K C)
theorem pf_exC {a : Wb} {n : Int} {l pl : Bool} (h : (most l : Int) < n) : fProf K C [toD a, .int n, .bool l, .bool pl] = .ok (tooL (most l : Int)) := by
  have e : fHp K C [toD a, .int n, .bool l] = .ex (most l : Int) := hp_exC (catT_ex h)
  unfold fProf Fprof
  simp only [e]
  rfl
theorem pf_exM {a : Wb} {n : Nat} {l pl : Bool} {m : Int} (h : n ≤ most l) (hm : fMaps K C [.int (n : Int), .int (a.1 : Int), .int 4096] = .ex m) : fProf K C [toD a, .int (n : Int), .bool l, .bool pl] = .ok (tooL m) := by
  have e : fHp K C [toD a, .int (n : Int), .bool l] = .ex m := hp_exM (catT_ok h) hm
  unfold fProf Fprof
  simp only [e]
  rfl
theorem up_le (l : Bool) (n : Nat) : ((ctX l).take (upX l n)).length ≤ 1000 := by
  rw [List.length_take]
  refine Nat.le_trans (Nat.min_le_right _ _) ?_
  cases l <;> decide
theorem pf_ok {a : Wb} {n : Nat} {l pl : Bool} {h : Wb → Nat} {d : PyData} (hn : n ≤ most l) (hm : fMaps K C [.int (n : Int), .int (a.1 : Int), .int 4096] = .ok d)
    (hh : ∀ x ∈ (ctX l).take (upX l n), fHoms K C [toD x, toD a] = .ok (.int (h x : Int))) : fProf K C [toD a, .int (n : Int), .bool l, .bool pl] = .ok (toldD (.list (iL (((ctX l).take (upX l n)).map h)))) := by
  have e : fHp K C [toD a, .int (n : Int), .bool l] = .ok (.list (iL (((ctX l).take (upX l n)).map h))) := hp_ok (catT_ok hn) hm hh (up_le l n)
  unfold fProf Fprof
  simp only [e]
  rfl
/-! ### _law_profile_refused -/
variable {fS : PF}
abbrev prL (K : PySem.W.Frag) (C : Addr) (fS fP : PF) : TS := (tSeq (tAsg (tOp (rI0 fun i j => .int (i - j)) (tC (.int 4)) (tCB rInt1 (tCons (tVar 2) tNil))) (gName 3)) (tSeq (tIfS (tNot (tB (tCall (spF C 2 fS) [] E0 (tCons (tTup (tCons (tC (.str "too large")) (tCons (tVar 3) tNil))) (tCons (tCall (spF C 4 fP) [] E0 (tCons (tVar 1) (tCons (tOp (rI0 fun i j => .int (i + j)) (tOp (rI0 fun i j => .int (i + j)) (tVar 3) (tC (.int 1))) (tOp (rI (fun _ j => 0 < j) fun i j => .int (i % j)) (tCB rInt1 (tCons (tVar 0) tNil)) (tC (.int 1000)))) (tCons (tVar 2) (tCons (tC (.bl true)) tNil))))) tNil))))) (tSeq (tRet (tC (.bl false))) tNext) tNext) (tSeq (tIfS (tNot (tB (tCall (spF C 2 fS) [] E0 (tCons (tTup (tCons (tC (.str "too large")) (tCons (tVar 3) tNil))) (tCons (tCall (spF C 4 fP) [] E0 (tCons (tTup (tCons (tC (.int 1)) (tCons (tTup tNil) tNil))) (tCons (tOp (rI0 fun i j => .int (i + j)) (tVar 3) (tC (.int 1))) (tCons (tVar 2) (tCons (tC (.bl false)) tNil))))) tNil))))) (tSeq (tRet (tC (.bl false))) tNext) tNext) (tSeq (tIfS (tNot (tB (tCall (spF C 2 fS) [] E0 (tCons (tTup (tCons (tC (.str "too large")) (tCons (tC (.int 4096)) tNil))) (tCons (tCall (spF C 4 fP) [] E0 (tCons (tVar 1) (tCons (tC (.int 3)) (tCons (tVar 2) (tCons (tC (.bl false)) tNil))))) tNil))))) (tSeq (tRet (tC (.bl false))) tNext) tNext) tNext))))
theorem prL_ok (hS : SmF fS) {m u : Nat} (hu : u < 48) (l : Bool) (s3 : Sl) : RS.run C E0 (prL K C fS (fProf K C)) [.pu (.int (m : Int)), .pu (toD (wdW u)), .pu (.bool l), s3] = .nx [.pu (.int (m : Int)), .pu (toD (wdW u)), .pu (.bool l), .pu (.int (most l : Int))] := by
  have p : (0 : Int) < 1000 := by decide
  have r1 : runD 4 (fProf K C) [] [toD (wdW u), .int ((most l : Int) + 1 + (m : Int) % 1000), .bool l, .bool true] = .ok (tooL (most l : Int)) := runD_of (pf_exC (by omega)) rfl
  have r2 : runD 4 (fProf K C) [] [toD (1, []), .int ((most l : Int) + 1), .bool l, .bool false] = .ok (tooL (most l : Int)) := runD_of (pf_exC (by omega)) rfl
  have r3 : runD 4 (fProf K C) [] [toD (wdW u), .int 3, .bool l, .bool false] = .ok (tooL 4096) := runD_of (pf_exM (n := 3) (by cases l <;> decide) (map_at (wM3 K C) (List.mem_range.mpr hu))) rfl
  have l2 : ∀ n : Int, [PyData.str "too large", .int n].length ≤ 100000 := tl_len
  have l3 : [PyData.int 1, .tuple []].length ≤ 100000 := by decide
  have l0 : ([] : List PyData).length ≤ 100000 := by decide
  rw [run_seqA, show RS.run C E0 (tAsg (tOp (rI0 fun i j => .int (i - j)) (tC (.int 4)) (tCB rInt1 (tCons (tVar 2) tNil))) (gName 3)) [.pu (.int (m : Int)), .pu (toD (wdW u)), .pu (.bool l), s3] = .nx [.pu (.int (m : Int)), .pu (toD (wdW u)), .pu (.bool l), .pu (.int (most l : Int))] by cases l <;> rfl, seqR_nx]
  rw [sm_if (d := tooL (most l : Int)) hS (tl_pln _) (tl_dpt _) (by simp only [run_tupA, run_aconsA, run_anilA, run_cA, run_varA, List.getElem?_cons_zero, List.getElem?_cons_succ, ofO, vD, bd_ok, l2, if_true]; rfl)
    (by simp only [run_call0A, okR, run_opA, run_cbA, run_aconsA, run_anilA, run_varA, run_cA, ofO, vD, List.getElem?_cons_zero, List.getElem?_cons_succ, bd_ok, run_int, run_I, run_I0, p, if_true, r1])]
  rw [sm_if (d := tooL (most l : Int)) hS (tl_pln _) (tl_dpt _) (by simp only [run_tupA, run_aconsA, run_anilA, run_cA, run_varA, List.getElem?_cons_zero, List.getElem?_cons_succ, ofO, vD, bd_ok, l2, if_true]; rfl)
    (by
      have r2' : runD 4 (fProf K C) [] [.tuple [.int 1, .tuple []], .int ((most l : Int) + 1), .bool l, .bool false] = .ok (tooL (most l : Int)) := r2
      simp only [run_call0A, okR, run_tupA, run_opA, run_cbA, run_aconsA, run_anilA, run_varA, run_cA, ofO, vD, List.getElem?_cons_zero, List.getElem?_cons_succ, bd_ok, run_I0, l0, l3, if_true, r2'])]
  rw [sm_if (d := tooL 4096) hS (tl_pln _) (tl_dpt _) rfl
    (by simp only [run_call0A, okR, run_aconsA, run_anilA, run_varA, run_cA, ofO, vD, List.getElem?_cons_zero, List.getElem?_cons_succ, bd_ok, r3])]
  rfl
theorem pr_ok (hS : SmF fS) (m : Nat) : Flaw_profile_refused K C fS (fProf K C) [.int (m : Int)] = .ok (.bool true) := by
  have un : (inlaw_profile_refused K C fS (fProf K C)).run = RS.run C E0 (rdlaw_profile_refused K C fS (fProf K C)) := rfl
  show outF0 ((inlaw_profile_refused K C fS (fProf K C)).run [.pu (.int (m : Int)), .any, .any, .any]) = _
  have p48 : (0 : Int) < 48 := by decide
  have p8 : (0 : Int) < 8 := by decide
  have p56 : (0 : Int) < 56 := by decide
  have dv8 : CDiv (m : Int) 8 := ⟨by decide, by decide⟩
  have hu : m % 48 < 48 := Nat.mod_lt _ (by decide)
  have hv : m / 8 % 56 < 56 := Nat.mod_lt _ (by decide)
  have e48 : (17 : Int) + (m : Int) % 48 = ((17 + m % 48 : Nat) : Int) := by omega
  have e56 : (9 : Int) + (m : Int) / 8 % 56 = ((9 + m / 8 % 56 : Nat) : Int) := by omega
  rw [un, run_seqA]
  rw [show RS.run C E0 (tAsg (tTup (tCons (tOp (rI0 fun i j => .int (i + j)) (tC (.int 17)) (tOp (rI (fun _ j => 0 < j) fun i j => .int (i % j)) (tCB rInt1 (tCons (tVar 0) tNil)) (tC (.int 48)))) (tCons (tTup (tCons (tTup (tCons (tC (.int 0)) (tCons (tC (.int 0)) tNil))) (tCons (tTup (tCons (tC (.int 0)) (tCons (tC (.int 1)) tNil))) tNil))) tNil))) (gName 1)) [.pu (.int (m : Int)), .any, .any, .any] = .nx [.pu (.int (m : Int)), .pu (toD (wdW (m % 48))), .any, .any] by
    simp only [run_asgA, runW, run_tupA, run_opA, run_cbA, run_aconsA, run_anilA, run_varA, run_cA, List.getElem?_cons_zero, List.getElem?_cons_succ, bd_ok, ofO, vD, run_int, run_I, run_I0, p48, if_true, e48, List.length_cons, List.length_nil, asgR, List.set_cons_zero, List.set_cons_succ]
    rfl, seqR_nx, run_seqA]
  rw [run_forA, show RI.run C E0 (iList K (tLst (tCons (tC (.bl false)) (tCons (tC (.bl true)) tNil)))) [.pu (.int (m : Int)), .pu (toD (wdW (m % 48))), .any, .any] = some [.bool false, .bool true] from rfl, forA_some, forR]
  simp only [run_gname, List.set_cons_zero, List.set_cons_succ]
  rw [prL_ok hS hu false .any]
  simp only [forR, run_gname, List.set_cons_zero, List.set_cons_succ]
  rw [prL_ok hS hu true]
  simp only []
  rw [seqR_nx, run_seqA, run_ifA]
  have r5 : runD 4 (fProf K C) [] [toD (wdW (m % 48)), .int 1, .bool false, .bool true] = .ok (toldD (.list [.int 1, .int ((17 + m % 48 : Nat) : Int)])) := runD_of (pf_ok (n := 1) (l := false) (h := fun x => if x.1 = 0 then 1 else 17 + m % 48) (by decide) (map_at (wM1 K C) (List.mem_range.mpr hu)) (by
    intro x hx
    have : x ∈ ([(0, []), (1, [])] : List Wb) := hx
    simp only [List.mem_cons, List.not_mem_nil, or_false] at this
    rcases this with rfl | rfl
    · exact wd0 hu
    · exact wd1 hu)) rfl
  have r6 : runD 4 (fProf K C) [] [toD (wdW (m % 48)), .int 1, .bool true, .bool true] = .ok (toldD (.list [.int 1, .int ((17 + m % 48 : Nat) : Int), .int 1])) := runD_of (pf_ok (n := 1) (l := true) (h := fun x => if x.1 = 0 then 1 else if x.2 = [] then 17 + m % 48 else 1) (by decide) (map_at (wM1 K C) (List.mem_range.mpr hu)) (by
    intro x hx
    have : x ∈ ([(0, []), (1, []), (1, [(0, 0)])] : List Wb) := hx
    simp only [List.mem_cons, List.not_mem_nil, or_false] at this
    rcases this with rfl | rfl | rfl
    · exact wd0 hu
    · exact wd1 hu
    · exact wd2 hu)) rfl
  have r4 : runD 4 (fProf K C) [] [toD (9 + m / 8 % 56, [(0, 1)]), .int 4, .bool false, .bool true] = .ok (tooL 4096) := runD_of (pf_exM (n := 4) (l := false) (by decide) (map_at (wM4 K C) (List.mem_range.mpr hv))) rfl
  have ew : (roIxT (K := K)).run (toD (wdW (m % 48))) (.int 0) = some (.int ((17 + m % 48 : Nat) : Int)) := rfl
  have key : ∀ s2 s3 : Sl, outF0 (RS.run C E0 (tSeq (tIfS (tNot (tB (tCall (spF C 2 fS) [] E0 (tCons (tTup (tCons (tC (.str "told")) (tCons (tLst (tCons (tC (.int 1)) (tCons (tOp (rIxT K) (tVar 1) (tC (.int 0))) tNil))) tNil))) (tCons (tCall (spF C 4 (fProf K C)) [] E0 (tCons (tVar 1) (tCons (tC (.int 1)) (tCons (tC (.bl false)) (tCons (tC (.bl true)) tNil))))) tNil))))) (tSeq (tRet (tC (.bl false))) tNext) tNext) (tSeq (tRet (tCall (spF C 2 fS) [] E0 (tCons (tTup (tCons (tC (.str "told")) (tCons (tLst (tCons (tC (.int 1)) (tCons (tOp (rIxT K) (tVar 1) (tC (.int 0))) (tCons (tC (.int 1)) tNil)))) tNil))) (tCons (tCall (spF C 4 (fProf K C)) [] E0 (tCons (tVar 1) (tCons (tC (.int 1)) (tCons (tC (.bl true)) (tCons (tC (.bl true)) tNil))))) tNil)))) tNext)) [.pu (.int (m : Int)), .pu (toD (wdW (m % 48))), s2, s3]) = .ok (.bool true) := by
    intro s2 s3
    rw [sm_if (d := toldD (.list [.int 1, .int ((17 + m % 48 : Nat) : Int)])) hS (by simp [toldD, pln, plns]) (by simp [toldD, dpt, dpts]) rfl
      (by simp only [run_call0A, okR, run_aconsA, run_anilA, run_varA, run_cA, ofO, vD, List.getElem?_cons_zero, List.getElem?_cons_succ, bd_ok, r5])]
    rw [sm_ret (d := toldD (.list [.int 1, .int ((17 + m % 48 : Nat) : Int), .int 1])) hS (by simp [toldD, pln, plns]) (by simp [toldD, dpt, dpts]) rfl
      (by simp only [run_call0A, okR, run_aconsA, run_anilA, run_varA, run_cA, ofO, vD, List.getElem?_cons_zero, List.getElem?_cons_succ, bd_ok, r6])]
    rfl
  have tt : runT (RT.run C E0 (tTest (tOp rEq (tOp (rI (fun _ j => 0 < j) fun i j => .int (i % j)) (tCB rInt1 (tCons (tVar 0) tNil)) (tC (.int 8))) (tC (.int 1))))) [.pu (.int (m : Int)), .pu (toD (wdW (m % 48))), .pu (.bool true), .pu (.int (most true : Int))] = .ok (decide ((m : Int) % 8 = 1)) := by
    simp only [runT, run_testA, run_opA, run_cbA, run_aconsA, run_anilA, run_varA, run_cA, List.getElem?_cons_zero, List.getElem?_cons_succ, bd_ok, ofO, vD, run_int, run_I, p8, if_true, run_eq, eqS, Option.map, toB]
  rw [tt]
  cases decide ((m : Int) % 8 = 1) with
  | false => rw [ifR_f, run_nextA, seqR_nx]; exact key _ _
  | true =>
    have r4' : runD 4 (fProf K C) [] [.tuple [.int ((9 + m / 8 % 56 : Nat) : Int), .tuple [.tuple [.int 0, .int 1]]], .int 4, .bool false, .bool true] = .ok (tooL 4096) := r4
    rw [ifR_t, sm_if (d := tooL 4096) hS (tl_pln _) (tl_dpt _) rfl
      (by simp only [run_call0A, okR, run_tupA, run_opA, run_cbA, run_aconsA, run_anilA, run_varA, run_cA, ofO, vD, List.getElem?_cons_zero, List.getElem?_cons_succ, bd_ok, run_int, run_I, run_I0, dv8, p56, e56, List.length_cons, List.length_nil, Nat.reduceAdd, Nat.reduceLeDiff, if_true, r4']), run_nextA, seqR_nx]
    exact key _ _
end
end DL
end
section
set_option Elab.async false
set_option linter.all false
set_option warn.classDefReducibility false
set_option synthInstance.maxSize 1000000
set_option synthInstance.maxHeartbeats 4000000
set_option maxRecDepth 100000
set_option maxHeartbeats 4000000
/-! MQ11: _law_widest. -/
namespace DL
open PySem L2 GX
def nodB : List Nat → Bool
  | [] => true
  | x :: xs => !elemN x xs && nodB xs
theorem elemN_mem {c : Nat} {l : List Nat} : elemN c l = true ↔ c ∈ l := by
  rw [elemN_eq, List.contains_iff_mem]
theorem nodB_ok : ∀ {l : List Nat}, nodB l = true → l.Nodup
  | [], _ => List.nodup_nil
  | x :: xs, h => by
    unfold nodB at h
    rw [Bool.and_eq_true, Bool.not_eq_true'] at h
    refine List.nodup_cons.mpr ⟨fun q => ?_, nodB_ok h.2⟩
    rw [elemN_mem.mpr q] at h
    cases h.1
def wdV (k : Nat) (s : Bool) : Wb := (64, esV k s)
def vOk (l : List (List Nat)) : Bool := l.all fun r => (r.all fun a => Nat.blt a 64) && nodB r
section
variable (K : PySem.W.Frag) (C : Addr)
theorem vNf : ((List.range 63).map fun k => fNR K C [toD (wdV k false)]) = (List.range 63).map fun k => .ok (.list (lL (nbE 64 (wdV k false).2))) := by kernel_rfl
theorem vNt : ((List.range 63).map fun k => fNR K C [toD (wdV k true)]) = (List.range 63).map fun k => .ok (.list (lL (nbE 64 (wdV k true).2))) := by kernel_rfl
theorem vM2 : fMaps K C [.int 2, .int 64, .int 4096] = .ok (.int 4096) := by kernel_rfl
theorem vM1 : fMaps K C [.int 1, .int 64, .int 4096] = .ok (.int 64) := by kernel_rfl
end
theorem vOf : ((List.range 63).map fun k => vOk (nbE 64 (wdV k false).2)) = (List.range 63).map fun k => true := by kernel_rfl
theorem vOt : ((List.range 63).map fun k => vOk (nbE 64 (wdV k true).2)) = (List.range 63).map fun k => true := by kernel_rfl
theorem smT_range (f : Nat → Nat) : ∀ n, smT f n = ((List.range n).map f).sum
  | 0 => rfl
  | n + 1 => by rw [smT, smT_range f n, List.range_succ, List.map_append, List.sum_append]; simp
def lenS : List (List Nat) → Nat
  | [] => 0
  | l :: ls => l.length + lenS ls
theorem smT_len {near : List (List Nat)} {n : Nat} (h : near.length = n) : smT (fun v => (near[v]?.getD []).length) n = lenS near := by
  have e : (List.range n).map (fun v => (near[v]?.getD []).length) = near.map List.length := by
    refine List.ext_getElem (by rw [List.length_map, List.length_map, List.length_range, h]) fun i h1 h2 => ?_
    rw [List.getElem_map, List.getElem_map, List.getElem_range]
    rw [List.length_map] at h2
    rw [List.getElem?_eq_getElem h2]
    rfl
  rw [smT_range, e]
  have : ∀ l : List (List Nat), (l.map List.length).sum = lenS l := fun l => by
    induction l with
    | nil => rfl
    | cons x l ih => rw [List.map_cons, List.sum_cons, ih]; rfl
  exact this near
theorem vSf : ((List.range 63).map fun k => lenS (nbE 64 (wdV k false).2)) = (List.range 63).map fun k => 3 := by kernel_rfl
theorem vSt : ((List.range 63).map fun k => lenS (nbE 64 (wdV k true).2)) = (List.range 63).map fun k => 5 := by kernel_rfl
theorem vR1 (near : List (List Nat)) : (rest (erM (1, [])) near 64 1 []).length = 64 := by kernel_rfl
theorem vR2 (near : List (List Nat)) : (rest (erM (2, [])) near 64 2 []).length = 4096 := by kernel_rfl
section
variable {K : PySem.W.Frag} {C : Addr}
def tiesV (s : Bool) : Nat := if s then 5 else 3
theorem vN {k : Nat} (hk : k < 63) (s : Bool) : fNR K C [toD (wdV k s)] = .ok (.list (lL (nbE 64 (wdV k s).2))) := by
  cases s
  · exact map_at (vNf K C) (List.mem_range.mpr hk)
  · exact map_at (vNt K C) (List.mem_range.mpr hk)
theorem vE {k : Nat} (hk : k < 63) (s : Bool) : (rest (erM (2, [(0, 1)])) (nbE 64 (wdV k s).2) 64 2 []).length = tiesV s := by
  have hO : vOk (nbE 64 (wdV k s).2) = true := by
    cases s
    · exact map_at vOf (List.mem_range.mpr hk)
    · exact map_at vOt (List.mem_range.mpr hk)
  have hS : smT (fun v => ((nbE 64 (wdV k s).2)[v]?.getD []).length) 64 = tiesV s := by
    rw [smT_len (nbE_len _ _)]
    cases s
    · exact map_at vSf (List.mem_range.mpr hk)
    · exact map_at vSt (List.mem_range.mpr hk)
  rw [← hS]
  refine rest_edge fun l hl => ?_
  have := List.all_eq_true.mp hO l hl
  rw [Bool.and_eq_true] at this
  exact ⟨fun a ha => Nat.le_of_ble_eq_true (List.all_eq_true.mp this.1 a ha), nodB_ok this.2⟩
theorem v0 {k : Nat} (hk : k < 63) (s : Bool) : fHoms K C [toD (0, []), toD (wdV k s)] = .ok (.int (1 : Nat)) :=
  homs_eq2 (x := (0, [])) (a := wdV k s) (near := nbE 64 (wdV k s).2) (wM0 K C _) (map_at (kES K C (toD (wdV k s))) (show ((0, []) : Wb) ∈ ctS by decide)) (vN hk s) (nbE_len _ _) (by decide) rfl (by decide) (show (0 : Nat) < 900000 by decide)
theorem v1 {k : Nat} (hk : k < 63) (s : Bool) : fHoms K C [toD (1, []), toD (wdV k s)] = .ok (.int (64 : Nat)) :=
  homs_eq2 (x := (1, [])) (a := wdV k s) (near := nbE 64 (wdV k s).2) (vM1 K C) (map_at (kES K C (toD (wdV k s))) (show ((1, []) : Wb) ∈ ctS by decide)) (vN hk s) (nbE_len _ _) (by decide) (vR1 _) (by decide) (show turns 64 1 < 900000 by decide)
theorem v2 {k : Nat} (hk : k < 63) (s : Bool) : fHoms K C [toD (2, []), toD (wdV k s)] = .ok (.int (4096 : Nat)) :=
  homs_eq2 (x := (2, [])) (a := wdV k s) (near := nbE 64 (wdV k s).2) (vM2 K C) (map_at (kES K C (toD (wdV k s))) (show ((2, []) : Wb) ∈ ctS by decide)) (vN hk s) (nbE_len _ _) (by decide) (vR2 _) (by decide) (show turns 64 2 < 900000 by decide)
theorem v3 {k : Nat} (hk : k < 63) (s : Bool) : fHoms K C [toD (2, [(0, 1)]), toD (wdV k s)] = .ok (.int (tiesV s : Nat)) :=
  homs_eq2 (x := (2, [(0, 1)])) (a := wdV k s) (near := nbE 64 (wdV k s).2) (vM2 K C) (map_at (kES K C (toD (wdV k s))) (show ((2, [(0, 1)]) : Wb) ∈ ctS by decide)) (vN hk s) (nbE_len _ _) (by decide) (vE hk s) (by cases s <;> decide) (show turns 64 2 < 900000 by decide)
variable {fS : PF}
theorem wi_ok (hS : SmF fS) (m : Nat) : Flaw_widest K C fS (fProf K C) [.int (m : Int)] = .ok (.bool true) := by
  have un : (inlaw_widest K C fS (fProf K C)).run = RS.run C E0 (rdlaw_widest K C fS (fProf K C)) := rfl
  show outF0 ((inlaw_widest K C fS (fProf K C)).run [.pu (.int (m : Int)), .any, .any]) = _
  have p63 : (0 : Int) < 63 := by decide
  have p2 : (0 : Int) < 2 := by decide
  have dv63 : CDiv (m : Int) 63 := ⟨by decide, by decide⟩
  have hk : m % 63 < 63 := Nat.mod_lt _ (by decide)
  have e63 : (1 : Int) + (m : Int) % 63 = ((1 + m % 63 : Nat) : Int) := by omega
  rw [un, run_seqA]
  rw [show RS.run C E0 (tOwn (tCons (tTup (tCons (tC (.int 0)) (tCons (tOp (rI0 fun i j => .int (i + j)) (tC (.int 1)) (tOp (rI (fun _ j => 0 < j) fun i j => .int (i % j)) (tCB rInt1 (tCons (tVar 0) tNil)) (tC (.int 63)))) tNil))) (tCons (tTup (tCons (tC (.int 1)) (tCons (tC (.int 1)) tNil))) tNil)) 1) [.pu (.int (m : Int)), .any, .any] = .nx [.pu (.int (m : Int)), .ow [eP (0, 1 + m % 63), eP (1, 1)], .any] by
    simp only [run_ownA, run_tupA, run_opA, run_cbA, run_aconsA, run_anilA, run_varA, run_cA, List.getElem?_cons_zero, List.getElem?_cons_succ, bd_ok, ofO, vD, run_int, run_I, run_I0, p63, if_true, e63, List.length_cons, List.length_nil]
    rfl, seqR_nx, run_seqA, run_ifA]
  have tt : runT (RT.run C E0 (tTest (tOp rEq (tOp (rI (fun _ j => 0 < j) fun i j => .int (i % j)) (tCB rInt1 (tCons (tOp (rI CDiv fun i j => .int (i / j)) (tVar 0) (tC (.int 63))) tNil)) (tC (.int 2))) (tC (.int 1))))) [.pu (.int (m : Int)), .ow [eP (0, 1 + m % 63), eP (1, 1)], .any] = .ok (decide ((m : Int) / 63 % 2 = 1)) := by
    simp only [runT, run_testA, run_opA, run_cbA, run_aconsA, run_anilA, run_varA, run_cA, List.getElem?_cons_zero, List.getElem?_cons_succ, bd_ok, ofO, vD, run_int, run_I, dv63, p2, if_true, run_eq, eqS, Option.map, toB]
  rw [tt]
  have step : ∃ s : Bool, ifR (.ok (decide ((m : Int) / 63 % 2 = 1))) (fun _ => RS.run C E0 (tSeq (tDrop (tBM K "list" rAppend (tVar 1) (tCons (tTup (tCons (tC (.int 2)) (tCons (tC (.int 63)) tNil))) tNil))) tNext) [.pu (.int (m : Int)), .ow [eP (0, 1 + m % 63), eP (1, 1)], .any]) (fun _ => RS.run C E0 tNext [.pu (.int (m : Int)), .ow [eP (0, 1 + m % 63), eP (1, 1)], .any]) = .nx [.pu (.int (m : Int)), .ow ((esV (m % 63) s).map eP), .any] := by
    cases decide ((m : Int) / 63 % 2 = 1) with
    | false => exact ⟨false, rfl⟩
    | true => exact ⟨true, rfl⟩
  obtain ⟨s, hs⟩ := step
  rw [hs, seqR_nx, run_seqA]
  rw [show RS.run C E0 (tAsg (tOp (rI0 fun i j => .int (i - j)) (tOp (rI CMul fun i j => .int (i * j)) (tC (.int 2)) (tCB (rLenQ K) (tCons (tVar 1) tNil))) (tC (.int 1))) (gName 2)) [.pu (.int (m : Int)), .ow ((esV (m % 63) s).map eP), .any] = .nx [.pu (.int (m : Int)), .ow ((esV (m % 63) s).map eP), .pu (.int (tiesV s : Int))] by
    cases s <;> rfl, seqR_nx]
  have r : runD 4 (fProf K C) [] [toD (wdV (m % 63) s), .int 2, .bool false, .bool true] = .ok (toldD (.list [.int 1, .int 64, .int 4096, .int (tiesV s : Int)])) := runD_of (pf_ok (n := 2) (l := false) (h := fun x => if x.1 = 0 then 1 else if x.1 = 1 then 64 else if x.2 = [] then 4096 else tiesV s) (by decide) (vM2 K C) (by
    intro x hx
    have : x ∈ ([(0, []), (1, []), (2, []), (2, [(0, 1)])] : List Wb) := hx
    simp only [List.mem_cons, List.not_mem_nil, or_false] at this
    rcases this with rfl | rfl | rfl | rfl
    · exact v0 hk s
    · exact v1 hk s
    · exact v2 hk s
    · exact v3 hk s)) rfl
  have l4 : ([PyData.int 1, .int 64, .int 4096, .int (tiesV s : Int)]).length ≤ 100000 := by simp
  have l2 : ∀ x y : PyData, [x, y].length ≤ 100000 := fun _ _ => by simp
  have e1 : ∀ s1 : Sl, RE.run C E0 (tTup (tCons (tC (.str "told")) (tCons (tLst (tCons (tC (.int 1)) (tCons (tC (.int 64)) (tCons (tC (.int 4096)) (tCons (tVar 2) tNil))))) tNil))) [.pu (.int (m : Int)), s1, .pu (.int (tiesV s : Int))] = .ok (toldD (.list [.int 1, .int 64, .int 4096, .int (tiesV s : Int)])) := fun s1 => by
    simp only [run_tupA, run_lstA, run_aconsA, run_anilA, run_varA, run_cA, ofO, vD, List.getElem?_cons_zero, List.getElem?_cons_succ, bd_ok, l4, l2, if_true]
    rfl
  have hb : RE.run C E0 (tCall (spF C 2 fS) [] E0 (tCons (tTup (tCons (tC (.str "told")) (tCons (tLst (tCons (tC (.int 1)) (tCons (tC (.int 64)) (tCons (tC (.int 4096)) (tCons (tVar 2) tNil))))) tNil))) (tCons (tCall (spF C 4 (fProf K C)) [] E0 (tCons (tTup (tCons (tC (.int 64)) (tCons (tCB (rTupQ K) (tCons (tVar 1) tNil)) tNil))) (tCons (tC (.int 2)) (tCons (tC (.bl false)) (tCons (tC (.bl true)) tNil))))) tNil))) [.pu (.int (m : Int)), .ow ((esV (m % 63) s).map eP), .pu (.int (tiesV s : Int))] = .bad := by
    rw [run_call0A, run_aconsA, e1]
    simp only [run_call0A, run_aconsA, run_tupA, run_cbA, run_varA, run_cA, ofO, vD, List.getElem?_cons_zero, List.getElem?_cons_succ, bd_ok, bd_bad, okR]
  have hg : RE.run C E0 (tCall (spF C 2 fS) [] E0 (tCons (tTup (tCons (tC (.str "told")) (tCons (tLst (tCons (tC (.int 1)) (tCons (tC (.int 64)) (tCons (tC (.int 4096)) (tCons (tVar 2) tNil))))) tNil))) (tCons (tCall (spF C 4 (fProf K C)) [] E0 (tCons (tTup (tCons (tC (.int 64)) (tCons (tCB (rTupQ K) (tCons (tVar 1) tNil)) tNil))) (tCons (tC (.int 2)) (tCons (tC (.bl false)) (tCons (tC (.bl true)) tNil))))) tNil))) [.pu (.int (m : Int)), .pu (.list ((esV (m % 63) s).map eP)), .pu (.int (tiesV s : Int))] = .ok (.bool true) := by
    refine sm_val (d := toldD (.list [.int 1, .int 64, .int 4096, .int (tiesV s : Int)])) hS (by simp [toldD, pln, plns]) (by simp [toldD, dpt, dpts]) (e1 _) ?_
    have r' : runD 4 (fProf K C) [] [.tuple [.int 64, .tuple ((esV (m % 63) s).map eP)], .int 2, .bool false, .bool true] = .ok (toldD (.list [.int 1, .int 64, .int 4096, .int (tiesV s : Int)])) := r
    have et : (rbTup (K := K)).run [.list ((esV (m % 63) s).map eP)] = some (.tuple ((esV (m % 63) s).map eP)) := rfl
    simp only [run_call0A, okR, run_tupA, run_cbA, run_aconsA, run_anilA, run_varA, run_cA, ofO, vD, List.getElem?_cons_zero, List.getElem?_cons_succ, bd_ok, et, l2, if_true, r']
  rw [run_seqA, run_retA]
  unfold runW
  rw [hb]
  show outF0 (seqR (retR (tryAt (RE.run C E0 _) [.pu (.int (m : Int)), .ow ((esV (m % 63) s).map eP), .pu (.int (tiesV s : Int))] [1])) _) = _
  rw [tryAt, show frzAt 1 [.pu (.int (m : Int)), .ow ((esV (m % 63) s).map eP), .pu (.int (tiesV s : Int))] = [.pu (.int (m : Int)), .pu (.list ((esV (m % 63) s).map eP)), .pu (.int (tiesV s : Int))] from rfl, hg]
  rfl
end
end DL
end
section
set_option Elab.async false
set_option linter.all false
set_option warn.classDefReducibility false
set_option synthInstance.maxSize 1000000
set_option synthInstance.maxHeartbeats 4000000
set_option maxRecDepth 100000
set_option maxHeartbeats 4000000
/-! MM: the first looped webs of the catalogue into webs without loops. Printed by genmm.py. -/
namespace DL
open PySem L2 GX
def ctM : List Wb := ctL.take 9
def tbM0 : List (List Nat) := [[1, 0, 0, 0, 0, 0, 0, 0, 0], [1, 1, 0, 1, 0, 0, 0, 0, 0], [1, 2, 0, 4, 0, 0, 0, 0, 0], [1, 2, 0, 4, 0, 2, 0, 0, 0], [1, 3, 0, 9, 0, 0, 0, 0, 0], [1, 3, 0, 9, 0, 2, 0, 0, 0], [1, 3, 0, 9, 0, 2, 0, 0, 0], [1, 3, 0, 9, 0, 4, 0, 0, 0], [1, 3, 0, 9, 0, 2, 0, 0, 0], [1, 3, 0, 9, 0, 4, 0, 0, 0], [1, 3, 0, 9, 0, 4, 0, 0, 0], [1, 3, 0, 9, 0, 6, 0, 0, 0], [1, 4, 0, 16, 0, 0, 0, 0, 0]]
def tbM1 : List (List Nat) := [[1, 4, 0, 16, 0, 2, 0, 0, 0], [1, 4, 0, 16, 0, 2, 0, 0, 0], [1, 4, 0, 16, 0, 4, 0, 0, 0], [1, 4, 0, 16, 0, 2, 0, 0, 0], [1, 4, 0, 16, 0, 4, 0, 0, 0], [1, 4, 0, 16, 0, 4, 0, 0, 0], [1, 4, 0, 16, 0, 6, 0, 0, 0], [1, 4, 0, 16, 0, 2, 0, 0, 0], [1, 4, 0, 16, 0, 4, 0, 0, 0], [1, 4, 0, 16, 0, 4, 0, 0, 0], [1, 4, 0, 16, 0, 6, 0, 0, 0], [1, 4, 0, 16, 0, 4, 0, 0, 0], [1, 4, 0, 16, 0, 6, 0, 0, 0]]
def tbM2 : List (List Nat) := [[1, 4, 0, 16, 0, 6, 0, 0, 0], [1, 4, 0, 16, 0, 8, 0, 0, 0], [1, 4, 0, 16, 0, 2, 0, 0, 0], [1, 4, 0, 16, 0, 4, 0, 0, 0], [1, 4, 0, 16, 0, 4, 0, 0, 0], [1, 4, 0, 16, 0, 6, 0, 0, 0], [1, 4, 0, 16, 0, 4, 0, 0, 0], [1, 4, 0, 16, 0, 6, 0, 0, 0], [1, 4, 0, 16, 0, 6, 0, 0, 0], [1, 4, 0, 16, 0, 8, 0, 0, 0], [1, 4, 0, 16, 0, 4, 0, 0, 0], [1, 4, 0, 16, 0, 6, 0, 0, 0], [1, 4, 0, 16, 0, 6, 0, 0, 0]]
def tbM3 : List (List Nat) := [[1, 4, 0, 16, 0, 8, 0, 0, 0], [1, 4, 0, 16, 0, 6, 0, 0, 0], [1, 4, 0, 16, 0, 8, 0, 0, 0], [1, 4, 0, 16, 0, 8, 0, 0, 0], [1, 4, 0, 16, 0, 10, 0, 0, 0], [1, 4, 0, 16, 0, 2, 0, 0, 0], [1, 4, 0, 16, 0, 4, 0, 0, 0], [1, 4, 0, 16, 0, 4, 0, 0, 0], [1, 4, 0, 16, 0, 6, 0, 0, 0], [1, 4, 0, 16, 0, 4, 0, 0, 0], [1, 4, 0, 16, 0, 6, 0, 0, 0], [1, 4, 0, 16, 0, 6, 0, 0, 0], [1, 4, 0, 16, 0, 8, 0, 0, 0]]
def tbM4 : List (List Nat) := [[1, 4, 0, 16, 0, 4, 0, 0, 0], [1, 4, 0, 16, 0, 6, 0, 0, 0], [1, 4, 0, 16, 0, 6, 0, 0, 0], [1, 4, 0, 16, 0, 8, 0, 0, 0], [1, 4, 0, 16, 0, 6, 0, 0, 0], [1, 4, 0, 16, 0, 8, 0, 0, 0], [1, 4, 0, 16, 0, 8, 0, 0, 0], [1, 4, 0, 16, 0, 10, 0, 0, 0], [1, 4, 0, 16, 0, 4, 0, 0, 0], [1, 4, 0, 16, 0, 6, 0, 0, 0], [1, 4, 0, 16, 0, 6, 0, 0, 0], [1, 4, 0, 16, 0, 8, 0, 0, 0], [1, 4, 0, 16, 0, 6, 0, 0, 0]]
def tbM5 : List (List Nat) := [[1, 4, 0, 16, 0, 8, 0, 0, 0], [1, 4, 0, 16, 0, 8, 0, 0, 0], [1, 4, 0, 16, 0, 10, 0, 0, 0], [1, 4, 0, 16, 0, 6, 0, 0, 0], [1, 4, 0, 16, 0, 8, 0, 0, 0], [1, 4, 0, 16, 0, 8, 0, 0, 0], [1, 4, 0, 16, 0, 10, 0, 0, 0], [1, 4, 0, 16, 0, 8, 0, 0, 0], [1, 4, 0, 16, 0, 10, 0, 0, 0], [1, 4, 0, 16, 0, 10, 0, 0, 0], [1, 4, 0, 16, 0, 12, 0, 0, 0]]
def tbM : List (List Nat) := tbM0 ++ tbM1 ++ tbM2 ++ tbM3 ++ tbM4 ++ tbM5
theorem kJM : (nrS.map fun nr => (erL.take 9).map fun er => cntR nr er []) = tbM := by kernel_rfl
theorem kHM : (wsS.map fun a => ctM.map fun x => cntH x a) = tbM := by
  rw [← kJM, ← knrS, ← kerL, List.map_map]
  refine List.map_congr_left fun a _ => ?_
  unfold ctM
  show _ = ((ctL.map erM).take 9).map fun er => cntR (nrM a) er []
  rw [← List.map_take, List.map_map]
  exact List.map_congr_left fun x _ => cntH_R x a
theorem tbM_lt : (tbM.all fun r => r.all fun n => decide (n < 90000)) = true := by kernel_rfl
theorem ctM_ok : ctM.all okX = true := by kernel_rfl
section
variable (K : PySem.W.Frag) (C : Addr)
theorem ctF_M : CtF K C wsS ctM := ctF_of K C kHM tbM_lt ctM_ok wsS_4 (kNS K C) (kMS K C) fun a => List.map_inj_left.mpr fun x hx => map_at (kEL K C a) (List.mem_of_mem_take hx)
end
theorem S2L : ((ctS.take (upS 2)).all fun x => decide (x ∈ ctL)) = true := by kernel_rfl
end DL
end
section
set_option Elab.async false
set_option linter.all false
set_option maxRecDepth 100000
set_option maxHeartbeats 4000000
/-! MQ4: loops of webs; catalogues as first parts of ctS, ctL. -/
namespace DL
open PySem L2 GX
section
variable (K : PySem.W.Frag) (C : Addr)
theorem hasS : (wsS.map fun a => fHas K C [toD a]) = wsS.map fun a => .ok (.bool (loopB a)) := by kernel_rfl
theorem hasL : (wsL.map fun a => fHas K C [toD a]) = wsL.map fun a => .ok (.bool (loopB a)) := by kernel_rfl
end
theorem noS : (wsS.all fun a => !loopB a) = true := by kernel_rfl
theorem L2S : (wsL.all fun a => loopB a || decide (a ∈ wsS)) = true := by kernel_rfl
theorem le3L : (wsL.all fun a => decide (a.1 ≤ 3)) = true := by kernel_rfl
section
variable {K : PySem.W.Frag} {C : Addr}
theorem lcat_S {n : Nat} (h : n ≤ 4) : fLcat0 K C [.int (n : Int), .bool false] = .ok (.list ((ctS.take (upS n)).map toD)) := by
  have : n = 0 ∨ n = 1 ∨ n = 2 ∨ n = 3 ∨ n = 4 := by omega
  rcases this with z | z | z | z | z <;> subst z
  · exact (lw0 K C).trans rfl
  · exact (lw1 K C).trans rfl
  · exact (lw2 K C).trans rfl
  · exact (lw3 K C).trans rfl
  · exact (lw4 K C).trans rfl
theorem lcat_L {n : Nat} (h : n ≤ 3) : fLcat0 K C [.int (n : Int), .bool true] = .ok (.list ((ctL.take (upL n)).map toD)) := by
  have : n = 0 ∨ n = 1 ∨ n = 2 ∨ n = 3 := by omega
  rcases this with z | z | z | z <;> subst z
  · exact (ll0 K C).trans rfl
  · exact (ll1 K C).trans rfl
  · exact (ll2 K C).trans rfl
  · exact (ll3 K C).trans rfl
end
end DL
end
section
set_option Elab.async false
set_option linter.all false
set_option warn.classDefReducibility false
set_option synthInstance.maxSize 1000000
set_option synthInstance.maxHeartbeats 4000000
set_option maxRecDepth 100000
set_option maxHeartbeats 4000000
/-! MQ12: _law_few_told. -/
namespace DL
open PySem L2 GX
section
variable {K : PySem.W.Frag} {C : Addr} {fS : PF}
theorem lcatX {n : Nat} {l : Bool} (h : n ≤ most l) : fLcat0 K C [.int (n : Int), .bool l] = .ok (.list (((ctX l).take (upX l n)).map toD)) := by
  cases l
  · exact lcat_S h
  · exact lcat_L h
theorem maps_le {x a : Nat} (hx : x ≤ 4) (ha : a ≤ 4) : ∃ dm, fMaps K C [.int (x : Int), .int (a : Int), .int 4096] = .ok dm := by
  have m := List.all_eq_true.mp (List.all_eq_true.mp (maps_ok K C) x (le4 hx)) a (le4 ha)
  cases e : fMaps K C [.int (x : Int), .int (a : Int), .int 4096] with
  | ok dm => exact ⟨dm, rfl⟩
  | ex n => rw [e] at m; cases m
  | bad => rw [e] at m; cases m
theorem pf_ct {ws ct : List Wb} {a : Wb} (F : CtF K C ws ct) (ha : a ∈ ws) {n : Nat} {l : Bool} (pl : Bool) (hn : n ≤ most l) (hx : ∀ x ∈ (ctX l).take (upX l n), x ∈ ct) :
    fProf K C [toD a, .int (n : Int), .bool l, .bool pl] = .ok (toldD (.list (iL (((ctX l).take (upX l n)).map fun x => cntH x a)))) := by
  obtain ⟨dm, hm⟩ := maps_le (K := K) (C := C) (show n ≤ 4 by cases l <;> (simp only [most] at hn; revert hn; simp; try omega)) (F.le a ha)
  exact pf_ok hn hm fun x hx' => F.homs a ha x (hx x hx')
theorem iL_pln (l : List Nat) (h : l.length ≤ 1000) : pln (toldD (.list (iL l))) = true := by
  have : ∀ l : List Nat, plns (iL l) = true := fun l => by
    induction l with
    | nil => rfl
    | cons x l ih => show (pln (.int (x : Int)) && plns (iL l)) = true; rw [ih]; rfl
  have z : (iL l).length ≤ 1000000 := by rw [iL_len]; omega
  simp [toldD, pln, plns, this, z]
theorem iL_dpts : ∀ l : List Nat, dpts (iL l) = 0
  | [] => rfl
  | x :: l => by
    show max (dpt (.int (x : Int))) (dpts (iL l)) = 0
    rw [iL_dpts l]; rfl
theorem iL_dpt (l : List Nat) : dpt (toldD (.list (iL l))) ≤ 7 := by simp [toldD, dpt, dpts, iL_dpts]
theorem iL_flat (l : List Nat) : (iL l).all flat1 = true := by
  rw [List.all_eq_true]
  intro d hd
  obtain ⟨k, _, rfl⟩ := List.mem_map.mp hd
  rfl
theorem few_ok (hS : SmF fS) {ws ct : List Wb} {a : Wb} (F : CtF K C ws ct) (ha : a ∈ ws) {n : Nat} {l : Bool} (hn : n ≤ most l) (hx : ∀ x ∈ (ctX l).take (upX l n), x ∈ ct) :
    Flaw_few_told K C (fCounts K C) (fLcat0 K C) (fProf K C) fS [toD a, .int (n : Int), .bool l] = .ok (.bool true) := by
  have c1 : runD 2 (fLcat0 K C) [] [.int (n : Int), .bool l] = .ok (.list (((ctX l).take (upX l n)).map toD)) := runD_of (lcatX hn) rfl
  have c2 : runD 2 (fCounts K C) [] [toD a, .list (((ctX l).take (upX l n)).map toD)] = .ok (.list (iL (((ctX l).take (upX l n)).map fun x => cntH x a))) := runD_of (counts_ok F ha hx (up_le l n)) rfl
  have p1 := pf_ct F ha true hn hx
  have p2 : runD 4 (fProf K C) [] [toD a, .int (n : Int), .bool l, .bool false] = .ok (toldD (.list (iL (((ctX l).take (upX l n)).map fun x => cntH x a)))) := runD_of (pf_ct F ha false hn hx) rfl
  have hlen : (((ctX l).take (upX l n)).map fun x => cntH x a).length ≤ 1000 := by rw [List.length_map]; exact up_le l n
  generalize (((ctX l).take (upX l n)).map fun x => cntH x a) = cs at c2 p1 p2 hlen
  have hT := iL_pln cs hlen
  have hD := iL_dpt cs
  have l2 : ∀ x y : PyData, [x, y].length ≤ 100000 := fun _ _ => by simp
  have u1 : (inft1 C (fCounts K C) (fLcat0 K C)).run = RS.run C E0 (ft1 C (fCounts K C) (fLcat0 K C)) := rfl
  have h1 : (inft1 C (fCounts K C) (fLcat0 K C)).run (startA 6 [toD a, .int (n : Int), .bool l]) = .nx [.pu (toD a), .pu (.int (n : Int)), .pu (.bool l), .pu (.list (iL cs)), .any, .any] := by
    rw [u1]
    show RS.run C E0 (ft1 C (fCounts K C) (fLcat0 K C)) [.pu (toD a), .pu (.int (n : Int)), .pu (.bool l), .any, .any, .any] = _
    simp only [run_asgA, runW, run_call0A, okR, run_aconsA, run_anilA, run_varA, List.getElem?_cons_zero, List.getElem?_cons_succ, bd_ok, c1, c2, asgR, List.set_cons_zero, List.set_cons_succ]
  have h2 : (inft2 C).run [.pu (toD a), .pu (.int (n : Int)), .pu (.bool l), .pu (.list (iL cs)), .any, .any] = .ok [toD a, .int (n : Int), .bool l, .bool true] := rfl
  have u3 : (inft3 C fS).run = RT.run C E0 (ft3 C fS) := rfl
  have h3 : (inft3 C fS).run [.pu (toD a), .pu (.int (n : Int)), .pu (.bool l), .pu (.list (iL cs)), .pu (toldD (.list (iL cs))), .any] = .ok false := by
    rw [u3]
    have v : RE.run C E0 (tCall (spF C 2 fS) [] E0 (tCons (tTup (tCons (tC (.str "told")) (tCons (tVar 3) tNil))) (tCons (tVar 4) tNil))) [.pu (toD a), .pu (.int (n : Int)), .pu (.bool l), .pu (.list (iL cs)), .pu (toldD (.list (iL cs))), .any] = .ok (.bool true) :=
      sm_val (d := toldD (.list (iL cs))) hS hT hD (by simp only [run_tupA, run_aconsA, run_anilA, run_cA, run_varA, List.getElem?_cons_zero, List.getElem?_cons_succ, ofO, vD, bd_ok, l2, if_true]; rfl) rfl
    simp only [run_tnotA, run_tbA, v, bd_ok, toB, Bool.not_true]
  have u5 : (inft5 K C (fProf K C) fS).run = RS.run C E0 (ft5 K C (fProf K C) fS) := rfl
  have h5 : outF0 ((inft5 K C (fProf K C) fS).run [.pu (toD a), .pu (.int (n : Int)), .pu (.bool l), .pu (.list (iL cs)), .any, .ow (iL cs)]) = .ok (.bool true) := by
    rw [u5, run_seqA]
    rw [show RS.run C E0 (tDrop (tBM K "list" rAppend (tVar 5) (tCons (tC (.int 0)) tNil))) [.pu (toD a), .pu (.int (n : Int)), .pu (.bool l), .pu (.list (iL cs)), .any, .ow (iL cs)] = .nx [.pu (toD a), .pu (.int (n : Int)), .pu (.bool l), .pu (.list (iL cs)), .any, .ow (iL cs ++ [.int 0])] by
      have z : (iL cs).length < 100000 := by rw [iL_len]; omega
      rw [run_appendA]
      simp only [runS, run_cA, ofO, vD]
      show appR 5 _ (some (iL cs)) (.ok (.int 0)) = _
      simp [appR, z], seqR_nx, run_seqA]
    rw [show RS.run C E0 (tAsg (tC (.int 7)) (gSub (tVar 5) (tC (.int 0)) rSetL)) [.pu (toD a), .pu (.int (n : Int)), .pu (.bool l), .pu (.list (iL cs)), .any, .ow (iL cs ++ [.int 0])] = .nx [.pu (toD a), .pu (.int (n : Int)), .pu (.bool l), .pu (.list (iL cs)), .any, .ow ((iL cs ++ [PyData.int 0]).set 0 (PyData.int 7))] by
      show (if 0 < (iL cs ++ [PyData.int 0]).length then Fl.nx [.pu (toD a), .pu (.int (n : Int)), .pu (.bool l), .pu (.list (iL cs)), .any, .ow ((iL cs ++ [PyData.int 0]).set 0 (PyData.int 7))] else Fl.bad) = _
      rw [if_pos (by simp)], seqR_nx]
    rw [sm_ret (d := toldD (.list (iL cs))) hS hT hD (by simp only [run_tupA, run_aconsA, run_anilA, run_cA, run_varA, List.getElem?_cons_zero, List.getElem?_cons_succ, ofO, vD, bd_ok, l2, if_true]; rfl)
      (by simp only [run_call0A, okR, run_aconsA, run_anilA, run_varA, run_cA, ofO, vD, List.getElem?_cons_zero, List.getElem?_cons_succ, bd_ok, p2])]
    rfl
  unfold Flaw_few_told
  rw [h1]
  show few2 K C (fProf K C) fS _ = _
  unfold few2
  rw [if_pos (show ([Sl.pu (toD a), Sl.pu (PyData.int (n : Int)), Sl.pu (PyData.bool l), Sl.pu (PyData.list (iL cs)), Sl.any, Sl.any].all notOw && decide ([Sl.pu (toD a), Sl.pu (PyData.int (n : Int)), Sl.pu (PyData.bool l), Sl.pu (PyData.list (iL cs)), Sl.any, Sl.any].length = 6)) = true from rfl), h2]
  simp only
  rw [if_pos (show [toD a, .int (n : Int), .bool l, .bool true].length = 4 from rfl), p1]
  unfold few3
  have ht : told2 (.ok (toldD (.list (iL cs)))) = some (iL cs) := by
    show (if (iL cs).all flat1 then some (iL cs) else none) = _
    rw [if_pos (iL_flat cs)]
  rw [ht]
  simp only [List.set_cons_zero, List.set_cons_succ]
  rw [h3]
  exact h5
end
end DL
end
section
set_option Elab.async false
set_option linter.all false
set_option warn.classDefReducibility false
set_option synthInstance.maxSize 1000000
set_option synthInstance.maxHeartbeats 4000000
set_option maxRecDepth 100000
set_option maxHeartbeats 4000000
/-! MQ13: what law needs of a pair of webs. -/
namespace DL
open PySem L2 GX
def trD (x : Wb) (m n : Nat) : PyData := .tuple [toD x, .int (m : Int), .int (n : Int)]
def allQ (a b : Wb) (xs : List Wb) : Bool := xs.all fun x => Nat.beq (cntH x a) (cntH x b)
theorem dueM_cases (a b : Wb) : ∀ xs : List Wb, (allQ a b xs = true ∧ dueM a b xs = none ∧ dueM b a xs = none) ∨ (∃ x ∈ xs, allQ a b xs = false ∧ dueM a b xs = some (trD x (cntH x a) (cntH x b)) ∧ dueM b a xs = some (trD x (cntH x b) (cntH x a)))
  | [] => .inl ⟨rfl, rfl, rfl⟩
  | x :: xs => by
    unfold allQ at *
    rw [List.all_cons, beq_dec]
    by_cases z : cntH x a = cntH x b
    · rw [decide_eq_true z, Bool.true_and, dueM, if_pos z, dueM, if_pos z.symm]
      rcases dueM_cases a b xs with h | ⟨y, hy, h⟩
      · exact .inl h
      · exact .inr ⟨y, List.mem_cons_of_mem _ hy, h⟩
    · rw [decide_eq_false z, Bool.false_and, dueM, if_neg z, dueM, if_neg (fun q => z q.symm)]
      exact .inr ⟨x, List.mem_cons_self .., rfl, rfl, rfl⟩
theorem allQ_comm (a b : Wb) (xs : List Wb) : allQ a b xs = allQ b a xs := by
  unfold allQ
  congr 1
  funext x
  rw [beq_dec, beq_dec]
  by_cases z : cntH x a = cntH x b
  · rw [decide_eq_true z, decide_eq_true z.symm]
  · rw [decide_eq_false z, decide_eq_false (fun q => z q.symm)]
theorem eqv_iL (f g : Wb → Nat) : ∀ xs : List Wb, PyData.eqvAll (iL (xs.map f)) (iL (xs.map g)) = xs.all fun x => Nat.beq (f x) (g x)
  | [] => rfl
  | x :: xs => by
    show (PyData.eqv (.int (f x : Int)) (.int (g x : Int)) && PyData.eqvAll (iL (xs.map f)) (iL (xs.map g))) = _
    rw [eqv_iL f g xs, List.all_cons, beq_dec]
    congr 1
    show ((f x : Int) == (g x : Int)) = _
    by_cases z : f x = g x
    · rw [z]; simp
    · rw [decide_eq_false z]
      simp; omega
theorem shap_iL (l : List Nat) : SeqAt.shaped (.list (iL l)) = true := by
  have h1 : ∀ l : List Nat, PyData.canLayAll0 (iL l) = true := fun l => by
    induction l with
    | nil => rfl
    | cons x l ih => show (PyData.canLay0 (.int (x : Int)) && PyData.canLayAll0 (iL l)) = true; rw [ih]; rfl
  have h2 : ∀ l : List Nat, PyData.depthAll (iL l) = 0 := fun l => by
    induction l with
    | nil => rfl
    | cons x l ih => show max (PyData.depth (.int (x : Int))) (PyData.depthAll (iL l)) = 0; rw [ih]; rfl
  unfold SeqAt.shaped
  show (PyData.canLayAll0 (iL l) && decide (PyData.depthAll (iL l) + 1 ≤ 64)) = true
  rw [h1, h2]; rfl
/-! ### plain data -/
def xOk (x : Wb) : Bool := pln (toD x) && decide (dpt (toD x) ≤ 3)
theorem xOkS : (ctS.all xOk) = true := by kernel_rfl
theorem xOkL : (ctL.all xOk) = true := by kernel_rfl
theorem xOk_mem {l : Bool} {x : Wb} (h : x ∈ ctX l) : pln (toD x) = true ∧ dpt (toD x) ≤ 3 := by
  have : xOk x = true := by
    cases l
    · exact List.all_eq_true.mp xOkS x h
    · exact List.all_eq_true.mp xOkL x h
  unfold xOk at this
  rw [Bool.and_eq_true, decide_eq_true_eq] at this
  exact this
theorem plns_of : ∀ {ds : List PyData}, (∀ d ∈ ds, pln d = true) → plns ds = true
  | [], _ => rfl
  | d :: ds, h => by
    show (pln d && plns ds) = true
    rw [h d (List.mem_cons_self ..), plns_of fun e he => h e (List.mem_cons_of_mem _ he)]; rfl
theorem dpts_of {n : Nat} : ∀ {ds : List PyData}, (∀ d ∈ ds, dpt d ≤ n) → dpts ds ≤ n
  | [], _ => Nat.zero_le _
  | d :: ds, h => by
    show max (dpt d) (dpts ds) ≤ n
    exact Nat.max_le.mpr ⟨h d (List.mem_cons_self ..), dpts_of fun e he => h e (List.mem_cons_of_mem _ he)⟩
theorem cat_pln {l : Bool} {n : Nat} : pln (.list (((ctX l).take (upX l n)).map toD)) = true := by
  have z : (((ctX l).take (upX l n)).map toD).length ≤ 1000000 := by
    have := up_le l n
    rw [List.length_map]; omega
  have : plns (((ctX l).take (upX l n)).map toD) = true := plns_of fun d hd => by
    obtain ⟨x, hx, rfl⟩ := List.mem_map.mp hd
    exact (xOk_mem (List.mem_of_mem_take hx)).1
  show (decide ((((ctX l).take (upX l n)).map toD).length ≤ 1000000) && plns (((ctX l).take (upX l n)).map toD)) = true
  rw [this, decide_eq_true z]; rfl
theorem cat_dpt {l : Bool} {n : Nat} : dpt (.list (((ctX l).take (upX l n)).map toD)) ≤ 7 := by
  have : dpts (((ctX l).take (upX l n)).map toD) ≤ 3 := dpts_of fun d hd => by
    obtain ⟨x, hx, rfl⟩ := List.mem_map.mp hd
    exact (xOk_mem (List.mem_of_mem_take hx)).2
  show dpts (((ctX l).take (upX l n)).map toD) + 1 ≤ 7
  omega
theorem tr_pln {l : Bool} {x : Wb} {m n : Nat} (h : x ∈ ctX l) : pln (toldD (trD x m n)) = true := by
  have := (xOk_mem h).1
  simp [toldD, trD, pln, plns, this]
theorem tr_dpt {l : Bool} {x : Wb} {m n : Nat} (h : x ∈ ctX l) : dpt (toldD (trD x m n)) ≤ 7 := by
  have := (xOk_mem h).2
  simp [toldD, trD, dpt, dpts]; omega
/-! ### listed, telling -/
section
variable {K : PySem.W.Frag} {C : Addr}
def fLisd (K : PySem.W.Frag) (C : Addr) : PF := Flaw_listed K C catT
theorem lisd_ok {n : Nat} {l : Bool} (h : n ≤ most l) : fLisd K C [.int (n : Int), .bool l] = .ok (.list (((ctX l).take (upX l n)).map toD)) := by
  have un : (inlaw_listed K C catT).run = RS.run C E0 (rdlaw_listed K C catT) := rfl
  show outF0 ((inlaw_listed K C catT).run [.pu (.int (n : Int)), .pu (.bool l)]) = _
  have hc := catT_ok h
  rw [un]
  cases l
  · have hc' : runD 2 catT [.bl false] [.int (n : Int)] = .ok (.list (((ctX false).take (upX false n)).map toD)) := hc
    simp only [run_seqA, run_ifA, run_nextA, run_retA, runT, runW, run_tbA, run_call0A, okR, run_aconsA, run_anilA, run_varA, List.getElem?_cons_zero, List.getElem?_cons_succ, bd_ok, toB, ifR, seqR, hc', retR, outF0]
  · have hc' : runF 2 catT ([PyData.int (n : Int)] ++ [PyData.bool true]) = .ok (.list (((ctX true).take (upX true n)).map toD)) := hc
    have l11 : ([PyData.int (n : Int)].length = 1 ∧ [PyData.bool true].length = 1) := ⟨rfl, rfl⟩
    simp only [run_seqA, run_ifA, run_nextA, run_retA, runT, runW, run_tbA, run_callN0A, okR, run_aconsA, run_anilA, run_varA, run_cA, ofO, vD, List.getElem?_cons_zero, List.getElem?_cons_succ, bd_ok, toB, ifR, seqR, l11, and_self, if_true, hc', retR, outF0]
def fTw (K : PySem.W.Frag) (C : Addr) : PF := Ftelling_web K C E0 (fFL K C) (fFind K C) catT (fHoms K C)
def fTell (K : PySem.W.Frag) (C : Addr) : PF := Ftell (fTw K C)
theorem tellX : TwX (fTell K C) := fun a b h => by
  have e : fTw K C [toD a, toD b] = .ex (most (loopB a || loopB b) : Int) := twX_ok h
  unfold fTell Ftell
  rw [e]
theorem tell_ok {ws : List Wb} {a b : Wb} {l : Bool} (F : CtF K C ws (ctX l)) (ha : a ∈ ws) (hb : b ∈ ws) (hl : (loopB a || loopB b) = l) (hm : max a.1 b.1 ≤ most l) (hf : ∃ r, fFind K C [toD a, toD b] = .ok r ∧ isN r = !alkM a b) :
    fTell K C [toD a, toD b] = .ok (toldD (twR a b ((ctX l).take (upX l (max a.1 b.1))))) := by
  obtain ⟨r, hf, hr⟩ := hf
  subst hl
  have e : fTw K C [toD a, toD b] = .ok (twR a b ((ctX (loopB a || loopB b)).take (upX (loopB a || loopB b) (max a.1 b.1)))) := tw_ok F ha hb hm hf hr (catT_ok hm) fun x hx => List.mem_of_mem_take hx
  unfold fTell Ftell
  rw [e]
  rfl
end
/-! ### statements -/
section
variable {K : PySem.W.Frag} {C : Addr} {te1 te2 te : TE} {s k : TS} {δ δ' : List Sl}
theorem nn_or [a : RE C E0 te1] [b : RE C E0 te2] [kk : RS C E0 k] (h1 : RE.run C E0 te1 δ = .ok (.bool true)) (h2 : RE.run C E0 te2 δ = .ok (.bool true)) :
    RS.run C E0 (tSeq (tIfS (tOr (tNot (tB te1)) (tNot (tB te2))) (tSeq (tRet (tC (.bl false))) tNext) tNext) k) δ = RS.run C E0 k δ := by
  refine step ?_
  rw [run_ifA, show runT (RT.run C E0 (tOr (tNot (tB te1)) (tNot (tB te2)))) δ = .ok false by
    simp only [runT, run_torA, run_tnotA, run_tbA, h1, h2, bd_ok, toB, Bool.not_true, Bool.false_eq_true, if_false], ifR_f, run_nextA]
theorem nn_if [a : RE C E0 te] [kk : RS C E0 k] (h : RE.run C E0 te δ = .ok (.bool true)) :
    RS.run C E0 (tSeq (tIfS (tNot (tB te)) (tSeq (tRet (tC (.bl false))) tNext) tNext) k) δ = RS.run C E0 k δ := by
  refine step ?_
  rw [run_ifA, show runT (RT.run C E0 (tNot (tB te))) δ = .ok false by
    simp only [runT, run_tnotA, run_tbA, h, bd_ok, toB, Bool.not_true], ifR_f, run_nextA]
end
end DL
end
section
set_option Elab.async false
set_option linter.all false
set_option warn.classDefReducibility false
set_option synthInstance.maxSize 1000000
set_option synthInstance.maxHeartbeats 4000000
set_option maxRecDepth 100000
set_option maxHeartbeats 4000000
/-! MQ14: the second half of law. lawT and lawIf are printed by genlaw.py. -/
namespace DL
open PySem L2 GX
abbrev lawT (K : PySem.W.Frag) (C : Addr) (f__law_cell : PF) (f__law_has_loop : PF) (f__law_catalogue : PF) (f__law_due : PF) (f__law_same : PF) (f__law_listed : PF) (f__law_telling : PF) (f_count_homs : PF) (f__law_counts : PF) (f__law_profile : PF) (f__law_few_told : PF) (f__law_profile_refused : PF) (f__law_telling_refused : PF) (f__law_widest : PF) : TS := (tSeq (tAsg (tCB rMax2 (tCons (tOp (rIxT K) (tVar 6) (tC (.int 0))) (tCons (tOp (rIxT K) (tVar 7) (tC (.int 0))) tNil))) (gName 8)) (tSeq (tAsg (tOrV (tCall (spF C 1 f__law_has_loop) [] E0 (tCons (tVar 6) tNil)) (tCall (spF C 1 f__law_has_loop) [] E0 (tCons (tVar 7) tNil))) (gName 9)) (tSeq (tAsg (tCall (spF C 2 f__law_catalogue) [] E0 (tCons (tVar 8) (tCons (tVar 9) tNil))) (gName 10)) (tSeq (tAsg (tCall (spF C 3 f__law_due) [] E0 (tCons (tVar 6) (tCons (tVar 7) (tCons (tVar 10) tNil)))) (gName 11)) (tSeq (tIfS (tOr (tNot (tB (tCall (spF C 2 f__law_same) [] E0 (tCons (tTup (tCons (tC (.str "told")) (tCons (tVar 11) tNil))) (tCons (tCall (spF C 2 f__law_telling) [] E0 (tCons (tVar 6) (tCons (tVar 7) tNil))) tNil))))) (tNot (tB (tCall (spF C 2 f__law_same) [] E0 (tCons (tVar 10) (tCons (tCall (spF C 2 f__law_listed) [] E0 (tCons (tVar 8) (tCons (tVar 9) tNil))) tNil)))))) (tSeq (tRet (tC (.bl false))) tNext) tNext) (tSeq (tIfS (tTest (tOp rNotN (tVar 11) (tC .non))) (tSeq (tIfS (tNot (tB (tCall (spF C 2 f__law_same) [] E0 (tCons (tLst (tCons (tOp (rIxT K) (tVar 11) (tC (.int 1))) (tCons (tOp (rIxT K) (tVar 11) (tC (.int 2))) tNil))) (tCons (tLst (tCons (tCall (spF C 2 f_count_homs) [] E0 (tCons (tOp (rIxT K) (tVar 11) (tC (.int 0))) (tCons (tVar 6) tNil))) (tCons (tCall (spF C 2 f_count_homs) [] E0 (tCons (tOp (rIxT K) (tVar 11) (tC (.int 0))) (tCons (tVar 7) tNil))) tNil))) tNil))))) (tSeq (tRet (tC (.bl false))) tNext) tNext) (tSeq (tAsg (tTup (tCons (tOp (rIxT K) (tVar 11) (tC (.int 0))) (tCons (tOp (rIxT K) (tVar 11) (tC (.int 2))) (tCons (tOp (rIxT K) (tVar 11) (tC (.int 1))) tNil)))) (gName 11)) tNext)) tNext) (tSeq (tIfS (tNot (tB (tCall (spF C 2 f__law_same) [] E0 (tCons (tTup (tCons (tC (.str "told")) (tCons (tVar 11) tNil))) (tCons (tCall (spF C 2 f__law_telling) [] E0 (tCons (tVar 7) (tCons (tVar 6) tNil))) tNil))))) (tSeq (tRet (tC (.bl false))) tNext) tNext) (tSeq (tIfS (tTest (tOp (rI0 fun i j => .bl (decide (i < j))) (tVar 8) (tC (.int 4)))) (tSeq (tAsg (tCall (spF C 2 f__law_counts) [] E0 (tCons (tVar 6) (tCons (tVar 10) tNil))) (gName 12)) (tSeq (tAsg (tCall (spF C 2 f__law_counts) [] E0 (tCons (tVar 7) (tCons (tVar 10) tNil))) (gName 13)) (tSeq (tIfS (tTest (tOp rNe (tOp (rEqD K) (tVar 12) (tVar 13)) (tOp rIsN (tVar 11) (tC .non)))) (tSeq (tRet (tC (.bl false))) tNext) tNext) (tSeq (tIfS (tNot (tB (tCall (spF C 2 f__law_same) [] E0 (tCons (tTup (tCons (tC (.str "told")) (tCons (tVar 12) tNil))) (tCons (tCall (spF C 4 f__law_profile) [] E0 (tCons (tVar 6) (tCons (tVar 8) (tCons (tVar 9) (tCons (tC (.bl true)) tNil))))) tNil))))) (tSeq (tRet (tC (.bl false))) tNext) tNext) (tSeq (tIfS (tNot (tB (tCall (spF C 2 f__law_same) [] E0 (tCons (tTup (tCons (tC (.str "told")) (tCons (tVar 13) tNil))) (tCons (tCall (spF C 4 f__law_profile) [] E0 (tCons (tVar 7) (tCons (tVar 8) (tCons (tVar 9) (tCons (tC (.bl false)) tNil))))) tNil))))) (tSeq (tRet (tC (.bl false))) tNext) tNext) tNext))))) tNext) (tSeq (tIfS (tNot (tB (tCall (spF C 3 f__law_few_told) [] E0 (tCons (tVar 6) (tCons (tOp (rI (fun _ j => 0 < j) fun i j => .int (i % j)) (tCB rInt1 (tCons (tOp (rI0 fun i j => .int (i + j)) (tCall (spF C 2 f__law_cell) [] E0 (tCons (tVar 0) (tCons (tC (.int 6)) tNil))) (tC (.int 2))) tNil)) (tC (.int 3))) (tCons (tOp rEq (tOp (rI (fun _ j => 0 < j) fun i j => .int (i % j)) (tCB rInt1 (tCons (tOp (rI CDiv fun i j => .int (i / j)) (tCall (spF C 2 f__law_cell) [] E0 (tCons (tVar 0) (tCons (tC (.int 6)) tNil))) (tC (.int 3))) tNil)) (tC (.int 2))) (tC (.int 1))) tNil)))))) (tSeq (tRet (tC (.bl false))) tNext) tNext) (tSeq (tIfS (tOr (tNot (tB (tCall (spF C 1 f__law_telling_refused) [] E0 (tCons (tCall (spF C 2 f__law_cell) [] E0 (tCons (tVar 0) (tCons (tC (.int 7)) tNil))) tNil)))) (tNot (tB (tCall (spF C 1 f__law_profile_refused) [] E0 (tCons (tCall (spF C 2 f__law_cell) [] E0 (tCons (tVar 0) (tCons (tC (.int 7)) tNil))) tNil))))) (tSeq (tRet (tC (.bl false))) tNext) tNext) (tSeq (tIfS (tTest (tOp rEq (tOp (rI (fun _ j => 0 < j) fun i j => .int (i % j)) (tCB rInt1 (tCons (tCall (spF C 2 f__law_cell) [] E0 (tCons (tVar 0) (tCons (tC (.int 8)) tNil))) tNil)) (tC (.int 16))) (tC (.int 1)))) (tSeq (tRet (tCall (spF C 1 f__law_widest) [] E0 (tCons (tOp (rI CDiv fun i j => .int (i / j)) (tCall (spF C 2 f__law_cell) [] E0 (tCons (tVar 0) (tCons (tC (.int 8)) tNil))) (tC (.int 16))) tNil))) tNext) tNext) (tSeq (tRet (tC (.bl true))) tNext))))))))))))
abbrev lawIf (K : PySem.W.Frag) (C : Addr) (fS fCo fP : PF) : TS := (tIfS (tTest (tOp (rI0 fun i j => .bl (decide (i < j))) (tVar 8) (tC (.int 4)))) (tSeq (tAsg (tCall (spF C 2 fCo) [] E0 (tCons (tVar 6) (tCons (tVar 10) tNil))) (gName 12)) (tSeq (tAsg (tCall (spF C 2 fCo) [] E0 (tCons (tVar 7) (tCons (tVar 10) tNil))) (gName 13)) (tSeq (tIfS (tTest (tOp rNe (tOp (rEqD K) (tVar 12) (tVar 13)) (tOp rIsN (tVar 11) (tC .non)))) (tSeq (tRet (tC (.bl false))) tNext) tNext) (tSeq (tIfS (tNot (tB (tCall (spF C 2 fS) [] E0 (tCons (tTup (tCons (tC (.str "told")) (tCons (tVar 12) tNil))) (tCons (tCall (spF C 4 fP) [] E0 (tCons (tVar 6) (tCons (tVar 8) (tCons (tVar 9) (tCons (tC (.bl true)) tNil))))) tNil))))) (tSeq (tRet (tC (.bl false))) tNext) tNext) (tSeq (tIfS (tNot (tB (tCall (spF C 2 fS) [] E0 (tCons (tTup (tCons (tC (.str "told")) (tCons (tVar 13) tNil))) (tCons (tCall (spF C 4 fP) [] E0 (tCons (tVar 7) (tCons (tVar 8) (tCons (tVar 9) (tCons (tC (.bl false)) tNil))))) tNil))))) (tSeq (tRet (tC (.bl false))) tNext) tNext) tNext))))) tNext)
section
variable {K : PySem.W.Frag} {C : Addr}
/-- what is known of the two webs -/
structure PairF (K : PySem.W.Frag) (C : Addr) (lp : Bool) (a b : Wb) : Prop where
  hlp : (loopB a || loopB b) = lp
  le : max a.1 b.1 ≤ most lp
  ex : ∃ ws, CtF K C ws (ctX lp) ∧ a ∈ ws ∧ b ∈ ws
  ha : fHas K C [toD a] = .ok (.bool (loopB a))
  hb : fHas K C [toD b] = .ok (.bool (loopB b))
  hk : fAlike K C [toD a, toD b] = .ok (.bool (alkM a b))
  f1 : ∃ r, fFind K C [toD a, toD b] = .ok r ∧ isN r = !alkM a b
  f2 : ∃ r, fFind K C [toD b, toD a] = .ok r ∧ isN r = !alkM b a
  q1 : alkM a b = allQ a b ((ctX lp).take (upX lp (max a.1 b.1)))
  q2 : alkM b a = allQ b a ((ctX lp).take (upX lp (max a.1 b.1)))
  few : ∀ (n : Nat) (l : Bool), n ≤ 2 → ∃ ws ct, CtF K C ws ct ∧ a ∈ ws ∧ ∀ x ∈ (ctX l).take (upX l n), x ∈ ct
def fFewS (K : PySem.W.Frag) (C : Addr) (fS : PF) : PF := Flaw_few_told K C (fCounts K C) (fLcat0 K C) (fProf K C) fS
def fTrefS (K : PySem.W.Frag) (C : Addr) (fS : PF) : PF := Flaw_telling_refused K C fS (fTell K C)
def fPrefS (K : PySem.W.Frag) (C : Addr) (fS : PF) : PF := Flaw_profile_refused K C fS (fProf K C)
def fWidS (K : PySem.W.Frag) (C : Addr) (fS : PF) : PF := Flaw_widest K C fS (fProf K C)
variable {fS : PF}
theorem cell_run (ns : List Int) (i : Nat) : ∃ w : Nat, runD 2 (fCell K C) [] [scD ns, .int (i : Int)] = .ok (.int (w : Int)) := by
  have h := cv_nn ns i
  refine ⟨(cv ns i).toNat, ?_⟩
  rw [show (((cv ns i).toNat : Nat) : Int) = cv ns i by omega]
  exact runD_of (cell_ok ns i) rfl
theorem bB_or (x y : Bool) : ((Rn.ok (PyData.bool x)).bd toB).bd (fun z => if z then .ok (.bool true) else bB ((Rn.ok (PyData.bool y)).bd toB)) = .ok (.bool (x || y)) := by
  cases x <;> cases y <;> rfl
theorem tail_ok (hS : SmF fS) (ns : List Int) {a b : Wb} {lp : Bool} (P : PairF K C lp a b) (s1 s2 s3 s4 s5 : Sl) :
    outF0 (RS.run C E0 (lawT K C (fCell K C) (fHas K C) (fLcat0 K C) (fDue K C) fS (fLisd K C) (fTell K C) (fHoms K C) (fCounts K C) (fProf K C) (fFewS K C fS) (fPrefS K C fS) (fTrefS K C fS) (fWidS K C fS)) [.pu (scD ns), s1, s2, s3, s4, s5, .pu (toD a), .pu (toD b), .any, .any, .any, .any, .any, .any, .any]) = .ok (.bool true) := by
  obtain ⟨hlp, hle, ⟨ws, F, ma, mb⟩, hha, hhb, hk, hf1, hf2, q1, q2, few⟩ := P
  generalize hsc : scD ns = sc
  have ea : (roIxT (K := K)).run (toD a) (.int 0) = some (.int (a.1 : Int)) := rfl
  have eb : (roIxT (K := K)).run (toD b) (.int 0) = some (.int (b.1 : Int)) := rfl
  have t1 := tell_ok F ma mb hlp hle hf1
  have hlp2 : (loopB b || loopB a) = lp := by rw [← hlp, Bool.or_comm]
  have hle2 : max b.1 a.1 ≤ most lp := by rw [Nat.max_comm]; exact hle
  have t2 := tell_ok F mb ma hlp2 hle2 hf2
  rw [Nat.max_comm b.1 a.1] at t2
  have hxs : ∀ x ∈ (ctX lp).take (upX lp (max a.1 b.1)), x ∈ ctX lp := fun x hx => List.mem_of_mem_take hx
  have hdu := due_ok F ma mb hk hxs
  have hca := lcatX (K := K) (C := C) hle
  have hli := lisd_ok (K := K) (C := C) hle
  have hc1 := counts_ok F ma hxs (up_le lp (max a.1 b.1))
  have hc2 := counts_ok F mb hxs (up_le lp (max a.1 b.1))
  have hp1 := pf_ct F ma true hle hxs
  have hp2 := pf_ct F mb false hle hxs
  have l1 : (((ctX lp).take (upX lp (max a.1 b.1))).map fun x => cntH x a).length ≤ 1000 := by rw [List.length_map]; exact up_le _ _
  have l2 : (((ctX lp).take (upX lp (max a.1 b.1))).map fun x => cntH x b).length ≤ 1000 := by rw [List.length_map]; exact up_le _ _
  have cpl := cat_pln (l := lp) (n := max a.1 b.1)
  have cdp := cat_dpt (l := lp) (n := max a.1 b.1)
  have l4 : (max a.1 b.1) ≤ 4 := by cases lp <;> (simp only [most] at hle; revert hle; simp; try omega)
  have mr := max_run a.1 b.1
  generalize (ctX lp).take (upX lp (max a.1 b.1)) = xs at *
  generalize max a.1 b.1 = n at *
  have tz : ∀ x y : PyData, [x, y].length ≤ 100000 := fun _ _ => by simp
  have tz3 : ∀ x y z : PyData, [x, y, z].length ≤ 100000 := fun _ _ _ => by simp
  unfold lawT
  -- limit
  refine (congrArg outF0 (step (δ' := [.pu sc, s1, s2, s3, s4, s5, .pu (toD a), .pu (toD b), .pu (.int (n : Int)), .any, .any, .any, .any, .any, .any]) ?_)).trans ?_
  · simp only [run_asgA, runW, run_cbA, run_opA, run_aconsA, run_anilA, run_varA, run_cA, List.getElem?_cons_zero, List.getElem?_cons_succ, bd_ok, ofO, vD, ea, eb, mr, asgR, List.set_cons_zero, List.set_cons_succ]
  -- loops
  have ra : runD 1 (fHas K C) [] [toD a] = .ok (.bool (loopB a)) := runD_of hha rfl
  have rb : runD 1 (fHas K C) [] [toD b] = .ok (.bool (loopB b)) := runD_of hhb rfl
  refine (congrArg outF0 (step (δ' := [.pu sc, s1, s2, s3, s4, s5, .pu (toD a), .pu (toD b), .pu (.int (n : Int)), .pu (.bool lp), .any, .any, .any, .any, .any]) ?_)).trans ?_
  · rw [run_asgA, runW, run_orVA]
    simp only [run_call0A, okR, run_aconsA, run_anilA, run_varA, List.getElem?_cons_zero, List.getElem?_cons_succ, bd_ok, ra, rb]
    rw [← hlp]
    cases loopB a <;> cases loopB b <;> rfl
  -- the catalogue
  have rc : runD 2 (fLcat0 K C) [] [.int (n : Int), .bool lp] = .ok (.list (xs.map toD)) := runD_of hca rfl
  refine (congrArg outF0 (step (δ' := [.pu sc, s1, s2, s3, s4, s5, .pu (toD a), .pu (toD b), .pu (.int (n : Int)), .pu (.bool lp), .pu (.list (xs.map toD)), .any, .any, .any, .any]) ?_)).trans ?_
  · simp only [run_asgA, runW, run_call0A, okR, run_aconsA, run_anilA, run_varA, List.getElem?_cons_zero, List.getElem?_cons_succ, bd_ok, rc, asgR, List.set_cons_zero, List.set_cons_succ]
  -- what is due
  have rd : runD 3 (fDue K C) [] [toD a, toD b, .list (xs.map toD)] = .ok (dueR a b xs) := runD_of hdu rfl
  refine (congrArg outF0 (step (δ' := [.pu sc, s1, s2, s3, s4, s5, .pu (toD a), .pu (toD b), .pu (.int (n : Int)), .pu (.bool lp), .pu (.list (xs.map toD)), .pu (dueR a b xs), .any, .any, .any]) ?_)).trans ?_
  · simp only [run_asgA, runW, run_call0A, okR, run_aconsA, run_anilA, run_varA, List.getElem?_cons_zero, List.getElem?_cons_succ, bd_ok, rd, asgR, List.set_cons_zero, List.set_cons_succ]
  have rl : runD 2 (fLisd K C) [] [.int (n : Int), .bool lp] = .ok (.list (xs.map toD)) := runD_of hli rfl
  have q2' := q2
  rw [allQ_comm b a xs, ← q1] at q2'
  -- the two answers
  have key : dueR a b xs = twR a b xs ∧ pln (toldD (twR a b xs)) = true ∧ dpt (toldD (twR a b xs)) ≤ 7 ∧ pln (toldD (twR b a xs)) = true ∧ dpt (toldD (twR b a xs)) ≤ 7 ∧ isN (twR b a xs) = alkM a b ∧
      ((alkM a b = true ∧ twR a b xs = .none ∧ twR b a xs = .none) ∨ (∃ x ∈ xs, twR a b xs = trD x (cntH x a) (cntH x b) ∧ twR b a xs = trD x (cntH x b) (cntH x a))) := by
    unfold dueR twR
    rw [q2']
    rcases dueM_cases a b xs with ⟨h, e1, e2⟩ | ⟨x, hx, h, e1, e2⟩
    · rw [h] at q1
      rw [q1]
      exact ⟨rfl, by simp [toldD, pln, plns], by simp [toldD, dpt, dpts], by simp [toldD, pln, plns], by simp [toldD, dpt, dpts], rfl, .inl ⟨rfl, rfl, rfl⟩⟩
    · rw [h] at q1
      rw [q1, e1, e2]
      exact ⟨rfl, tr_pln (hxs x hx), tr_dpt (hxs x hx), tr_pln (hxs x hx), tr_dpt (hxs x hx), rfl, .inr ⟨x, hx, rfl, rfl⟩⟩
  obtain ⟨kd, kp1, kt1, kp2, kt2, kn, kc⟩ := key
  rw [kd]
  have rt1 : runD 2 (fTell K C) [] [toD a, toD b] = .ok (toldD (twR a b xs)) := runD_of t1 rfl
  have rt2 : runD 2 (fTell K C) [] [toD b, toD a] = .ok (toldD (twR b a xs)) := runD_of t2 rfl
  refine (congrArg outF0 (nn_or (sm_val (d := toldD (twR a b xs)) hS kp1 kt1 ?_ ?_) (sm_val (d := .list (xs.map toD)) hS cpl cdp ?_ ?_))).trans ?_
  · simp only [run_tupA, run_aconsA, run_anilA, run_cA, run_varA, List.getElem?_cons_zero, List.getElem?_cons_succ, ofO, vD, bd_ok, tz, if_true]
    rfl
  · simp only [run_call0A, okR, run_aconsA, run_anilA, run_varA, List.getElem?_cons_zero, List.getElem?_cons_succ, bd_ok, rt1]
  · simp only [run_varA, List.getElem?_cons_zero, List.getElem?_cons_succ]
  · simp only [run_call0A, okR, run_aconsA, run_anilA, run_varA, List.getElem?_cons_zero, List.getElem?_cons_succ, bd_ok, rl]
  -- the counts, turned
  refine (congrArg outF0 (step (δ' := [.pu sc, s1, s2, s3, s4, s5, .pu (toD a), .pu (toD b), .pu (.int (n : Int)), .pu (.bool lp), .pu (.list (xs.map toD)), .pu (twR b a xs), .any, .any, .any]) ?_)).trans ?_
  · rcases kc with ⟨_, e1, e2⟩ | ⟨x, hx, e1, e2⟩
    · rw [e1, e2, run_ifA]
      rfl
    · rw [e1, e2, run_ifA]
      have h1 : runD 2 (fHoms K C) [] [toD x, toD a] = .ok (.int (cntH x a : Int)) := runD_of (F.homs a ma x (hxs x hx)) rfl
      have h2 : runD 2 (fHoms K C) [] [toD x, toD b] = .ok (.int (cntH x b : Int)) := runD_of (F.homs b mb x (hxs x hx)) rfl
      have i0 : (roIxT (K := K)).run (trD x (cntH x a) (cntH x b)) (.int 0) = some (toD x) := rfl
      have i1 : (roIxT (K := K)).run (trD x (cntH x a) (cntH x b)) (.int 1) = some (.int (cntH x a : Int)) := rfl
      have i2 : (roIxT (K := K)).run (trD x (cntH x a) (cntH x b)) (.int 2) = some (.int (cntH x b : Int)) := rfl
      have nn : (roNotN).run (trD x (cntH x a) (cntH x b)) .none = some (.bool true) := rfl
      simp only [runT, run_testA, run_opA, run_varA, run_cA, List.getElem?_cons_zero, List.getElem?_cons_succ, ofO, vD, bd_ok, nn, toB, ifR]
      refine (sm_if (d := .list [.int (cntH x a : Int), .int (cntH x b : Int)]) hS (by simp [pln, plns]) (by simp [dpt, dpts]) ?_ ?_).trans ?_
      · simp only [run_lstA, run_aconsA, run_anilA, run_opA, run_varA, run_cA, List.getElem?_cons_zero, List.getElem?_cons_succ, ofO, vD, bd_ok, i1, i2, tz, if_true]
      · simp only [run_lstA, run_aconsA, run_anilA, run_call0A, okR, run_opA, run_varA, run_cA, List.getElem?_cons_zero, List.getElem?_cons_succ, ofO, vD, bd_ok, i0, h1, h2, tz, if_true]
      · simp only [run_seqA, run_nextA, run_asgA, runW, run_tupA, run_aconsA, run_anilA, run_opA, run_varA, run_cA, List.getElem?_cons_zero, List.getElem?_cons_succ, ofO, vD, bd_ok, i0, i1, i2, tz3, if_true, asgR, List.set_cons_zero, List.set_cons_succ, seqR]
        rfl
  -- the other way round
  refine (congrArg outF0 (sm_if (d := toldD (twR b a xs)) hS kp2 kt2 ?_ ?_)).trans ?_
  · simp only [run_tupA, run_aconsA, run_anilA, run_cA, run_varA, List.getElem?_cons_zero, List.getElem?_cons_succ, ofO, vD, bd_ok, tz, if_true]
    rfl
  · simp only [run_call0A, okR, run_aconsA, run_anilA, run_varA, List.getElem?_cons_zero, List.getElem?_cons_succ, bd_ok, rt2]
  -- the profiles
  have prof : ∃ s12 s13 : Sl, RS.run C E0 (lawIf K C fS (fCounts K C) (fProf K C)) [.pu sc, s1, s2, s3, s4, s5, .pu (toD a), .pu (toD b), .pu (.int (n : Int)), .pu (.bool lp), .pu (.list (xs.map toD)), .pu (twR b a xs), .any, .any, .any] = .nx [.pu sc, s1, s2, s3, s4, s5, .pu (toD a), .pu (toD b), .pu (.int (n : Int)), .pu (.bool lp), .pu (.list (xs.map toD)), .pu (twR b a xs), s12, s13, .any] := by
    unfold lawIf
    rw [run_ifA]
    have tt : runT (RT.run C E0 (tTest (tOp (rI0 fun i j => .bl (decide (i < j))) (tVar 8) (tC (.int 4))))) [.pu sc, s1, s2, s3, s4, s5, .pu (toD a), .pu (toD b), .pu (.int (n : Int)), .pu (.bool lp), .pu (.list (xs.map toD)), .pu (twR b a xs), .any, .any, .any] = .ok (decide ((n : Int) < 4)) := by
      simp only [runT, run_testA, run_opA, run_varA, run_cA, List.getElem?_cons_zero, List.getElem?_cons_succ, ofO, vD, bd_ok, run_I0, toB]
    rw [tt]
    cases decide ((n : Int) < 4) with
    | false => exact ⟨.any, .any, rfl⟩
    | true =>
      rw [ifR_t]
      have r1 : runD 2 (fCounts K C) [] [toD a, .list (xs.map toD)] = .ok (.list (iL (xs.map fun x => cntH x a))) := runD_of hc1 rfl
      have r2 : runD 2 (fCounts K C) [] [toD b, .list (xs.map toD)] = .ok (.list (iL (xs.map fun x => cntH x b))) := runD_of hc2 rfl
      have p1 : runD 4 (fProf K C) [] [toD a, .int (n : Int), .bool lp, .bool true] = .ok (toldD (.list (iL (xs.map fun x => cntH x a)))) := runD_of hp1 rfl
      have p2 : runD 4 (fProf K C) [] [toD b, .int (n : Int), .bool lp, .bool false] = .ok (toldD (.list (iL (xs.map fun x => cntH x b)))) := runD_of hp2 rfl
      have hev : (roEqD (K := K)).run (.list (iL (xs.map fun x => cntH x a))) (.list (iL (xs.map fun x => cntH x b))) = some (.bool (alkM a b)) := by
        show (if SeqAt.shaped (.list (iL (xs.map fun x => cntH x a))) = true ∧ SeqAt.shaped (.list (iL (xs.map fun x => cntH x b))) = true then some (PyData.bool (PyData.eqvAll (iL (xs.map fun x => cntH x a)) (iL (xs.map fun x => cntH x b)))) else none) = _
        rw [if_pos ⟨shap_iL _, shap_iL _⟩, eqv_iL, q1]
        rfl
      have hnn : (roIsN).run (twR b a xs) .none = some (.bool (alkM a b)) := by rw [← kn]; rfl
      have hne : (roNe).run (.bool (alkM a b)) (.bool (alkM a b)) = some (.bool false) := by cases alkM a b <;> rfl
      refine ⟨.pu (.list (iL (xs.map fun x => cntH x a))), .pu (.list (iL (xs.map fun x => cntH x b))), ?_⟩
      refine (step (δ' := [.pu sc, s1, s2, s3, s4, s5, .pu (toD a), .pu (toD b), .pu (.int (n : Int)), .pu (.bool lp), .pu (.list (xs.map toD)), .pu (twR b a xs), .pu (.list (iL (xs.map fun x => cntH x a))), .any, .any]) ?_).trans ?_
      · simp only [run_asgA, runW, run_call0A, okR, run_aconsA, run_anilA, run_varA, List.getElem?_cons_zero, List.getElem?_cons_succ, bd_ok, r1, asgR, List.set_cons_zero, List.set_cons_succ]
      refine (step (δ' := [.pu sc, s1, s2, s3, s4, s5, .pu (toD a), .pu (toD b), .pu (.int (n : Int)), .pu (.bool lp), .pu (.list (xs.map toD)), .pu (twR b a xs), .pu (.list (iL (xs.map fun x => cntH x a))), .pu (.list (iL (xs.map fun x => cntH x b))), .any]) ?_).trans ?_
      · simp only [run_asgA, runW, run_call0A, okR, run_aconsA, run_anilA, run_varA, List.getElem?_cons_zero, List.getElem?_cons_succ, bd_ok, r2, asgR, List.set_cons_zero, List.set_cons_succ]
      refine (step (δ' := [.pu sc, s1, s2, s3, s4, s5, .pu (toD a), .pu (toD b), .pu (.int (n : Int)), .pu (.bool lp), .pu (.list (xs.map toD)), .pu (twR b a xs), .pu (.list (iL (xs.map fun x => cntH x a))), .pu (.list (iL (xs.map fun x => cntH x b))), .any]) ?_).trans ?_
      · rw [run_ifA]
        simp only [runT, run_testA, run_opA, run_varA, run_cA, List.getElem?_cons_zero, List.getElem?_cons_succ, ofO, vD, bd_ok, hev, hnn, hne, toB, ifR, run_nextA]
      refine (sm_if (d := toldD (.list (iL (xs.map fun x => cntH x a)))) hS (iL_pln _ l1) (iL_dpt _) ?_ ?_).trans ?_
      · simp only [run_tupA, run_aconsA, run_anilA, run_cA, run_varA, List.getElem?_cons_zero, List.getElem?_cons_succ, ofO, vD, bd_ok, tz, if_true]
        rfl
      · simp only [run_call0A, okR, run_aconsA, run_anilA, run_varA, run_cA, ofO, vD, List.getElem?_cons_zero, List.getElem?_cons_succ, bd_ok, p1]
      refine (sm_if (d := toldD (.list (iL (xs.map fun x => cntH x b)))) hS (iL_pln _ l2) (iL_dpt _) ?_ ?_).trans ?_
      · simp only [run_tupA, run_aconsA, run_anilA, run_cA, run_varA, List.getElem?_cons_zero, List.getElem?_cons_succ, ofO, vD, bd_ok, tz, if_true]
        rfl
      · simp only [run_call0A, okR, run_aconsA, run_anilA, run_varA, run_cA, ofO, vD, List.getElem?_cons_zero, List.getElem?_cons_succ, bd_ok, p2]
      rfl
  obtain ⟨s12, s13, prof⟩ := prof
  refine (congrArg outF0 (step prof)).trans ?_
  -- few told
  obtain ⟨w6, r6⟩ := cell_run (K := K) (C := C) ns 6
  obtain ⟨w7, r7⟩ := cell_run (K := K) (C := C) ns 7
  obtain ⟨w8, r8⟩ := cell_run (K := K) (C := C) ns 8
  rw [hsc] at r6 r7 r8
  have r6' : runD 2 (fCell K C) [] [sc, .int 6] = .ok (.int (w6 : Int)) := r6
  have r7' : runD 2 (fCell K C) [] [sc, .int 7] = .ok (.int (w7 : Int)) := r7
  have r8' : runD 2 (fCell K C) [] [sc, .int 8] = .ok (.int (w8 : Int)) := r8
  have p3 : (0 : Int) < 3 := by decide
  have p2 : (0 : Int) < 2 := by decide
  have p16 : (0 : Int) < 16 := by decide
  have d3 : CDiv (w6 : Int) 3 := ⟨by decide, by decide⟩
  have d16 : CDiv (w8 : Int) 16 := ⟨by decide, by decide⟩
  have e6 : ((w6 : Int) + 2) % 3 = (((w6 + 2) % 3 : Nat) : Int) := by omega
  have e8 : (w8 : Int) / 16 = ((w8 / 16 : Nat) : Int) := rfl
  have n2 : (w6 + 2) % 3 ≤ 2 := by omega
  obtain ⟨ws', ct', F', ma', hx'⟩ := few ((w6 + 2) % 3) (decide ((w6 : Int) / 3 % 2 = 1)) n2
  have rf : runD 3 (fFewS K C fS) [] [toD a, .int (((w6 + 2) % 3 : Nat) : Int), .bool (decide ((w6 : Int) / 3 % 2 = 1))] = .ok (.bool true) := runD_of (few_ok hS F' ma' (Nat.le_trans n2 (by cases decide ((w6 : Int) / 3 % 2 = 1) <;> decide)) hx') rfl
  refine (congrArg outF0 (nn_if ?_)).trans ?_
  · simp only [run_call0A, okR, run_opA, run_cbA, run_aconsA, run_anilA, run_varA, run_cA, ofO, vD, List.getElem?_cons_zero, List.getElem?_cons_succ, bd_ok, r6', run_int, run_I, run_I0, p3, p2, d3, if_true, e6, run_eq, eqS, Option.map, rf]
  -- refused
  have rtr : runD 1 (fTrefS K C fS) [] [.int (w7 : Int)] = .ok (.bool true) := runD_of (tr_ok hS tellX w7) rfl
  have rpr : runD 1 (fPrefS K C fS) [] [.int (w7 : Int)] = .ok (.bool true) := runD_of (pr_ok hS w7) rfl
  refine (congrArg outF0 (nn_or ?_ ?_)).trans ?_
  · simp only [run_call0A, okR, run_aconsA, run_anilA, run_varA, run_cA, ofO, vD, List.getElem?_cons_zero, List.getElem?_cons_succ, bd_ok, r7', rtr]
  · simp only [run_call0A, okR, run_aconsA, run_anilA, run_varA, run_cA, ofO, vD, List.getElem?_cons_zero, List.getElem?_cons_succ, bd_ok, r7', rpr]
  -- the widest
  have rwi : runD 1 (fWidS K C fS) [] [.int ((w8 / 16 : Nat) : Int)] = .ok (.bool true) := runD_of (wi_ok hS (w8 / 16)) rfl
  rw [run_seqA, run_ifA]
  have tt : runT (RT.run C E0 (tTest (tOp rEq (tOp (rI (fun _ j => 0 < j) fun i j => .int (i % j)) (tCB rInt1 (tCons (tCall (spF C 2 (fCell K C)) [] E0 (tCons (tVar 0) (tCons (tC (.int 8)) tNil))) tNil)) (tC (.int 16))) (tC (.int 1))))) [.pu sc, s1, s2, s3, s4, s5, .pu (toD a), .pu (toD b), .pu (.int (n : Int)), .pu (.bool lp), .pu (.list (xs.map toD)), .pu (twR b a xs), s12, s13, .any] = .ok (decide ((w8 : Int) % 16 = 1)) := by
    simp only [runT, run_testA, run_call0A, okR, run_opA, run_cbA, run_aconsA, run_anilA, run_varA, run_cA, ofO, vD, List.getElem?_cons_zero, List.getElem?_cons_succ, bd_ok, r8', run_int, run_I, p16, if_true, run_eq, eqS, Option.map, toB]
  rw [tt]
  cases decide ((w8 : Int) % 16 = 1) with
  | false => rfl
  | true =>
    rw [ifR_t]
    simp only [run_seqA, run_retA, runW, run_call0A, okR, run_opA, run_aconsA, run_anilA, run_varA, run_cA, ofO, vD, List.getElem?_cons_zero, List.getElem?_cons_succ, bd_ok, r8', run_I, d16, if_true, e8, rwi, retR, seqR, outF0]
end
end DL
end
section
set_option Elab.async false
set_option linter.all false
set_option warn.classDefReducibility false
set_option synthInstance.maxSize 1000000
set_option synthInstance.maxHeartbeats 4000000
set_option maxRecDepth 100000
set_option maxHeartbeats 4000000
/-! MQ15: law. -/
namespace DL
open PySem L2 GX
def FiF (K : PySem.W.Frag) (C : Addr) (ws : List Wb) : Prop := ∀ a ∈ ws, ∀ b ∈ ws, ∃ r, fFind K C [toD a, toD b] = .ok r ∧ isN r = !alkM a b
theorem upS_le {n : Nat} (h : n ≤ 2) : upS n ≤ upS 2 ∧ upL n ≤ 9 := by
  have : n = 0 ∨ n = 1 ∨ n = 2 := by omega
  rcases this with z | z | z <;> subst z <;> decide
theorem mem_take_le {α : Type} {l : List α} {m n : Nat} {x : α} (h : m ≤ n) (hx : x ∈ l.take m) : x ∈ l.take n := by
  have e : l.take m = (l.take n).take m := by rw [List.take_take, Nat.min_eq_left h]
  rw [e] at hx
  exact List.mem_of_mem_take hx
section
variable {K : PySem.W.Frag} {C : Addr}
theorem few_S {a : Wb} (ha : a ∈ wsS) (n : Nat) (l : Bool) (hn : n ≤ 2) : ∃ ws ct, CtF K C ws ct ∧ a ∈ ws ∧ ∀ x ∈ (ctX l).take (upX l n), x ∈ ct := by
  cases l
  · exact ⟨wsS, ctS, ctF_S K C, ha, fun x hx => List.mem_of_mem_take hx⟩
  · exact ⟨wsS, ctM, ctF_M K C, ha, fun x hx => mem_take_le (upS_le hn).2 hx⟩
theorem few_L {a : Wb} (ha : a ∈ wsL) (n : Nat) (l : Bool) (hn : n ≤ 2) : ∃ ws ct, CtF K C ws ct ∧ a ∈ ws ∧ ∀ x ∈ (ctX l).take (upX l n), x ∈ ct := by
  cases l
  · exact ⟨wsL, ctL, ctF_L K C, ha, fun x hx => of_decide_eq_true (List.all_eq_true.mp S2L x (mem_take_le (upS_le hn).1 hx))⟩
  · exact ⟨wsL, ctL, ctF_L K C, ha, fun x hx => List.mem_of_mem_take hx⟩
theorem pair_S (Fi : FiF K C wsS) {a b : Wb} (ha : a ∈ wsS) (hb : b ∈ wsS) (few : ∀ (n : Nat) (l : Bool), n ≤ 2 → ∃ ws ct, CtF K C ws ct ∧ a ∈ ws ∧ ∀ x ∈ (ctX l).take (upX l n), x ∈ ct) : PairF K C false a b where
  hlp := by
    have h1 := List.all_eq_true.mp noS a ha
    have h2 := List.all_eq_true.mp noS b hb
    rw [Bool.not_eq_true'] at h1 h2
    rw [h1, h2]; rfl
  le := Nat.max_le.mpr ⟨(ctF_S K C).le a ha, (ctF_S K C).le b hb⟩
  ex := ⟨wsS, ctF_S K C, ha, hb⟩
  ha := map_at (hasS K C) ha
  hb := map_at (hasS K C) hb
  hk := alike_S ha hb
  f1 := Fi a ha b hb
  f2 := Fi b hb a ha
  q1 := alk_S ha hb
  q2 := by rw [Nat.max_comm]; exact alk_S hb ha
  few := few
theorem pair_L (Fi : FiF K C wsL) {a b : Wb} (ha : a ∈ wsL) (hb : b ∈ wsL) (hl : (loopB a || loopB b) = true) : PairF K C true a b where
  hlp := hl
  le := Nat.max_le.mpr ⟨of_decide_eq_true (List.all_eq_true.mp le3L a ha), of_decide_eq_true (List.all_eq_true.mp le3L b hb)⟩
  ex := ⟨wsL, ctF_L K C, ha, hb⟩
  ha := map_at (hasL K C) ha
  hb := map_at (hasL K C) hb
  hk := alike_L ha hb
  f1 := Fi a ha b hb
  f2 := Fi b hb a ha
  q1 := alk_L ha hb
  q2 := by rw [Nat.max_comm]; exact alk_L hb ha
  few := few_L ha
def wsX (l : Bool) : List Wb := if l then wsL else wsS
theorem pair_X (FS : FiF K C wsS) (FL : FiF K C wsL) {l : Bool} {a b : Wb} (ha : a ∈ wsX l) (hb : b ∈ wsX l) : ∃ lp, PairF K C lp a b := by
  cases l
  · exact ⟨false, pair_S FS ha hb (few_S ha)⟩
  · cases z : (loopB a || loopB b) with
    | true => exact ⟨true, pair_L FL ha hb z⟩
    | false =>
      rw [Bool.or_eq_false_iff] at z
      have h1 := List.all_eq_true.mp L2S a ha
      have h2 := List.all_eq_true.mp L2S b hb
      rw [z.1, Bool.false_or] at h1
      rw [z.2, Bool.false_or] at h2
      exact ⟨false, pair_S FS (of_decide_eq_true h1) (of_decide_eq_true h2) (few_L ha)⟩
theorem otF_X (l : Bool) : OtF K C l (wsX l) := by
  cases l
  · exact otF_S
  · exact otF_L
variable {fS : PF}
def bitF (sh : Int) (m : Nat) : Nat := if (m : Int) < sh then 1 else 0
def szX (l : Bool) : List Int := if l then [3, 2, 3, 3, 1, 0] else [3, 4, 2, 4, 1, 0]
theorem bits_run {δ : List Sl} {sh : Int} {sc s1 s2 s3 s5 s6 s7 s8 s9 s10 s11 s12 s13 : Sl} : ∀ ms : List Nat, lcRun ((rgwName 14 [14]).run [sc, s1, s2, s3, .pu (.int sh), s5, s6, s7, s8, s9, s10, s11, s12, s13, .any]) (rtYes (C := C) (EX := E0)).run (RE.run C E0 (tIf (tTest (tOp (rI0 fun i j => .bl (decide (i < j))) (tVar 14) (tVar 4))) (tC (.int 1)) (tC (.int 0)))) (iL ms) = some (iL (ms.map (bitF sh)))
  | [] => rfl
  | m :: ms => by
    have ih := bits_run (δ := δ) (sh := sh) (sc := sc) (s1 := s1) (s2 := s2) (s3 := s3) (s5 := s5) (s6 := s6) (s7 := s7) (s8 := s8) (s9 := s9) (s10 := s10) (s11 := s11) (s12 := s12) (s13 := s13) ms
    show lcRun _ _ _ (.int (m : Int) :: iL ms) = _
    rw [lcRun]
    simp only [run_gwname, List.mem_singleton, if_true, List.set_cons_zero, List.set_cons_succ, run_yes, run_ifEA, run_testA, run_opA, run_varA, run_cA, List.getElem?_cons_zero, List.getElem?_cons_succ, ofO, vD, run_I0, bd_ok, toB] at ih ⊢
    rw [ih]
    by_cases z : (m : Int) < sh
    · simp only [decide_eq_true z, if_true]
      rw [List.map_cons, show bitF sh m = 1 from if_pos z]; rfl
    · simp only [decide_eq_false z, Bool.false_eq_true, if_false]
      rw [List.map_cons, show bitF sh m = 0 from if_neg z]; rfl
theorem law_ok (FS : FiF K C wsS) (FL : FiF K C wsL) (hS : SmF fS) (ns : List Int) :
    Flaw K C (fCell K C) (fDraws K C) (fWeb K C) (fOther K C) (fHas K C) (fLcat0 K C) (fDue K C) fS (fLisd K C) (fTell K C) (fHoms K C) (fCounts K C) (fProf K C) (fFewS K C fS) (fPrefS K C fS) (fTrefS K C fS) (fWidS K C fS) [scD ns] = .ok (.bool true) := by
  have un : (inlaw K C (fCell K C) (fDraws K C) (fWeb K C) (fOther K C) (fHas K C) (fLcat0 K C) (fDue K C) fS (fLisd K C) (fTell K C) (fHoms K C) (fCounts K C) (fProf K C) (fFewS K C fS) (fPrefS K C fS) (fTrefS K C fS) (fWidS K C fS)).run = RS.run C E0 (rdlaw K C (fCell K C) (fDraws K C) (fWeb K C) (fOther K C) (fHas K C) (fLcat0 K C) (fDue K C) fS (fLisd K C) (fTell K C) (fHoms K C) (fCounts K C) (fProf K C) (fFewS K C fS) (fPrefS K C fS) (fTrefS K C fS) (fWidS K C fS)) := rfl
  show outF0 ((inlaw K C (fCell K C) (fDraws K C) (fWeb K C) (fOther K C) (fHas K C) (fLcat0 K C) (fDue K C) fS (fLisd K C) (fTell K C) (fHoms K C) (fCounts K C) (fProf K C) (fFewS K C fS) (fPrefS K C fS) (fTrefS K C fS) (fWidS K C fS)).run [.pu (scD ns), .any, .any, .any, .any, .any, .any, .any, .any, .any, .any, .any, .any, .any, .any]) = _
  rw [un]
  unfold rdlaw
  obtain ⟨w, r0⟩ := cell_run (K := K) (C := C) ns 0
  have r0' : runD 2 (fCell K C) [] [scD ns, .int 0] = .ok (.int (w : Int)) := r0
  obtain ⟨ms, hl1, hm, hd⟩ := draws_nat (K := K) (C := C) ns 1 10 4 (by decide) (by decide) (by decide)
  have hd' : runD 4 (fDraws K C) [] [scD ns, .int 1, .int 10, .int 4] = .ok (.list (iL ms)) := runD_of hd rfl
  have p2 : (0 : Int) < 2 := by decide
  have p5 : (0 : Int) < 5 := by decide
  have p6 : (0 : Int) < 6 := by decide
  have d2 : CDiv (w : Int) 2 := ⟨by decide, by decide⟩
  have d12 : CDiv (w : Int) 12 := ⟨by decide, by decide⟩
  have oth := fun (l : Bool) (a : Wb) (ha : a ∈ wsX l) => other_ok (otF_X (K := K) (C := C) l) ha ns
  have tl : ∀ (a b : Wb), (∃ lp, PairF K C lp a b) → ∀ s1 s2 s3 s4 s5 : Sl, outF0 (RS.run C E0 (lawT K C (fCell K C) (fHas K C) (fLcat0 K C) (fDue K C) fS (fLisd K C) (fTell K C) (fHoms K C) (fCounts K C) (fProf K C) (fFewS K C fS) (fPrefS K C fS) (fTrefS K C fS) (fWidS K C fS)) [.pu (scD ns), s1, s2, s3, s4, s5, .pu (toD a), .pu (toD b), .any, .any, .any, .any, .any, .any, .any]) = .ok (.bool true) := fun a b ⟨lp, P⟩ s1 s2 s3 s4 s5 => tail_ok hS ns P s1 s2 s3 s4 s5
  generalize scD ns = sc at *
  refine (congrArg outF0 (step (δ' := [.pu sc, .pu (.int (w : Int)), .any, .any, .any, .any, .any, .any, .any, .any, .any, .any, .any, .any, .any]) ?_)).trans ?_
  · simp only [run_asgA, runW, run_call0A, okR, run_aconsA, run_anilA, run_varA, run_cA, ofO, vD, List.getElem?_cons_zero, List.getElem?_cons_succ, bd_ok, r0', asgR, List.set_cons_zero, List.set_cons_succ]
  generalize hl : decide ((w : Int) % 2 = 0) = l
  refine (congrArg outF0 (step (δ' := [.pu sc, .pu (.int (w : Int)), .pu (.bool l), .any, .any, .any, .any, .any, .any, .any, .any, .any, .any, .any, .any]) ?_)).trans ?_
  · simp only [run_asgA, runW, run_opA, run_cbA, run_aconsA, run_anilA, run_varA, run_cA, ofO, vD, List.getElem?_cons_zero, List.getElem?_cons_succ, bd_ok, run_int, run_I, p2, if_true, run_eq, eqS, Option.map, hl, asgR, List.set_cons_zero, List.set_cons_succ]
  refine (congrArg outF0 (step (δ' := [.pu sc, .pu (.int (w : Int)), .pu (.bool l), .pu (.list ((szX false).map .int)), .any, .any, .any, .any, .any, .any, .any, .any, .any, .any, .any]) ?_)).trans ?_
  · rfl
  refine (congrArg outF0 (step (δ' := [.pu sc, .pu (.int (w : Int)), .pu (.bool l), .pu (.list ((szX l).map .int)), .any, .any, .any, .any, .any, .any, .any, .any, .any, .any, .any]) ?_)).trans ?_
  · cases l <;> rfl
  obtain ⟨sh, hsh⟩ : ∃ sh : Int, (roIxL (K := K)).run (.list [.int 2, .int 1, .int 3, .int 2, .int 4]) (.int ((w : Int) / 12 % 5)) = some (.int sh) := by
    have : (w : Int) / 12 % 5 = 0 ∨ (w : Int) / 12 % 5 = 1 ∨ (w : Int) / 12 % 5 = 2 ∨ (w : Int) / 12 % 5 = 3 ∨ (w : Int) / 12 % 5 = 4 := by omega
    rcases this with z | z | z | z | z <;> rw [z] <;> exact ⟨_, rfl⟩
  refine (congrArg outF0 (step (δ' := [.pu sc, .pu (.int (w : Int)), .pu (.bool l), .pu (.list ((szX l).map .int)), .pu (.int sh), .any, .any, .any, .any, .any, .any, .any, .any, .any, .any]) ?_)).trans ?_
  · simp only [run_asgA, runW, run_opA, run_lstA, run_cbA, run_aconsA, run_anilA, run_varA, run_cA, ofO, vD, List.getElem?_cons_zero, List.getElem?_cons_succ, bd_ok, List.length_cons, List.length_nil, Nat.reduceAdd, Nat.reduceLeDiff, run_int, run_I, p5, d12, if_true, hsh, asgR, List.set_cons_zero, List.set_cons_succ]
  have hbits : ∀ m ∈ ms.map (bitF sh), m < 2 := fun m h => by
    obtain ⟨k, _, rfl⟩ := List.mem_map.mp h
    unfold bitF
    split <;> decide
  have hbl : (ms.map (bitF sh)).length = 10 := by rw [List.length_map, hl1]
  have hrun := fun (s5 s6 s7 s8 s9 s10 s11 s12 s13 : Sl) => bits_run (C := C) (δ := []) (sh := sh) (sc := .pu sc) (s1 := .pu (.int (w : Int))) (s2 := .pu (.bool l)) (s3 := .pu (.list ((szX l).map .int))) (s5 := s5) (s6 := s6) (s7 := s7) (s8 := s8) (s9 := s9) (s10 := s10) (s11 := s11) (s12 := s12) (s13 := s13) ms
  generalize ms.map (bitF sh) = bs at *
  refine (congrArg outF0 (step (δ' := [.pu sc, .pu (.int (w : Int)), .pu (.bool l), .pu (.list ((szX l).map .int)), .pu (.int sh), .pu (.list (iL bs)), .any, .any, .any, .any, .any, .any, .any, .any, .any]) ?_)).trans ?_
  · have hi : RI.run C E0 (iList K (tCall (spF C 4 (fDraws K C)) [] E0 (tCons (tVar 0) (tCons (tC (.int 1)) (tCons (tC (.int 10)) (tCons (tC (.int 4)) tNil)))))) [.pu sc, .pu (.int (w : Int)), .pu (.bool l), .pu (.list ((szX l).map .int)), .pu (.int sh), .any, .any, .any, .any, .any, .any, .any, .any, .any, .any] = some (iL ms) := by
      simp only [run_ilistA, run_call0A, okR, run_aconsA, run_anilA, run_varA, run_cA, ofO, vD, List.getElem?_cons_zero, List.getElem?_cons_succ, bd_ok, hd', toL]
    have hw : wipeA [.pu sc, .pu (.int (w : Int)), .pu (.bool l), .pu (.list ((szX l).map .int)), .pu (.int sh), .any, .any, .any, .any, .any, .any, .any, .any, .any, .any] [14] = [.pu sc, .pu (.int (w : Int)), .pu (.bool l), .pu (.list ((szX l).map .int)), .pu (.int sh), .any, .any, .any, .any, .any, .any, .any, .any, .any, .any] := rfl
    rw [run_asgA, runW, run_lcA, hi, hw, lcAll, if_pos (by rw [iL_len]; omega), hrun]
    rfl
  -- the first web
  obtain ⟨z, hz, hzl⟩ : ∃ z : Nat, (roIxL (K := K)).run (.list ((szX l).map .int)) (.int ((w : Int) / 2 % 6)) = some (.int (z : Int)) ∧ z < (if l then 4 else 5) := by
    have : (w : Int) / 2 % 6 = 0 ∨ (w : Int) / 2 % 6 = 1 ∨ (w : Int) / 2 % 6 = 2 ∨ (w : Int) / 2 % 6 = 3 ∨ (w : Int) / 2 % 6 = 4 ∨ (w : Int) / 2 % 6 = 5 := by omega
    cases l
    · rcases this with q | q | q | q | q | q <;> rw [q]
      · exact ⟨3, rfl, by decide⟩
      · exact ⟨4, rfl, by decide⟩
      · exact ⟨2, rfl, by decide⟩
      · exact ⟨4, rfl, by decide⟩
      · exact ⟨1, rfl, by decide⟩
      · exact ⟨0, rfl, by decide⟩
    · rcases this with q | q | q | q | q | q <;> rw [q]
      · exact ⟨3, rfl, by decide⟩
      · exact ⟨2, rfl, by decide⟩
      · exact ⟨3, rfl, by decide⟩
      · exact ⟨3, rfl, by decide⟩
      · exact ⟨1, rfl, by decide⟩
      · exact ⟨0, rfl, by decide⟩
  obtain ⟨b0, b1, b2, b3, b4, b5, b6, b7, b8, b9, rfl⟩ : ∃ b0 b1 b2 b3 b4 b5 b6 b7 b8 b9, bs = [b0, b1, b2, b3, b4, b5, b6, b7, b8, b9] := by
    match bs, hbl with
    | [b0, b1, b2, b3, b4, b5, b6, b7, b8, b9], _ => exact ⟨_, _, _, _, _, _, _, _, _, _, rfl⟩
  obtain ⟨a, ha, hae⟩ := (otF_X (K := K) (C := C) l).web z [b0, b1, b2, b3, b4, b5] (.int (b6 : Int)) (.int (b7 : Int)) (.int (b8 : Int)) (.int (b9 : Int)) hzl (bits_mem [b0, b1, b2, b3, b4, b5] fun x hx => hbits x (by simp at hx ⊢; omega))
  have ra : runD 3 (fWeb K C) [] [.int (z : Int), .list (iL [b0, b1, b2, b3, b4, b5, b6, b7, b8, b9]), .bool l] = .ok (toD a) := runD_of hae rfl
  refine (congrArg outF0 (step (δ' := [.pu sc, .pu (.int (w : Int)), .pu (.bool l), .pu (.list ((szX l).map .int)), .pu (.int sh), .pu (.list (iL [b0, b1, b2, b3, b4, b5, b6, b7, b8, b9])), .pu (toD a), .any, .any, .any, .any, .any, .any, .any, .any]) ?_)).trans ?_
  · simp only [run_asgA, runW, run_call0A, okR, run_opA, run_cbA, run_aconsA, run_anilA, run_varA, run_cA, ofO, vD, List.getElem?_cons_zero, List.getElem?_cons_succ, bd_ok, run_int, run_I, p6, d2, if_true, hz, ra, asgR, List.set_cons_zero, List.set_cons_succ]
  obtain ⟨b, hb, hbe⟩ := oth l a ha
  have rb : runD 3 (fOther K C) [] [sc, toD a, .bool l] = .ok (toD b) := runD_of hbe rfl
  refine (congrArg outF0 (step (δ' := [.pu sc, .pu (.int (w : Int)), .pu (.bool l), .pu (.list ((szX l).map .int)), .pu (.int sh), .pu (.list (iL [b0, b1, b2, b3, b4, b5, b6, b7, b8, b9])), .pu (toD a), .pu (toD b), .any, .any, .any, .any, .any, .any, .any]) ?_)).trans ?_
  · simp only [run_asgA, runW, run_call0A, okR, run_aconsA, run_anilA, run_varA, List.getElem?_cons_zero, List.getElem?_cons_succ, bd_ok, rb, asgR, List.set_cons_zero, List.set_cons_succ]
  exact tl a b (pair_X FS FL ha hb) _ _ _ _ _
end
end DL
end
section
set_option Elab.async false
set_option linter.all false
set_option warn.classDefReducibility false
set_option synthInstance.maxSize 1000000
set_option synthInstance.maxHeartbeats 4000000
set_option maxRecDepth 100000
set_option maxHeartbeats 4000000
/-! HZ: the facts of the head; every def's promise; law. Printed by genhz.py. -/
namespace HX
open PySem PySem.Spec PyProof.Rows L2 He DL TLX
section
variable {K : PySem.W.Frag} {h : Heap} {mg : Str → Option Value} {P : Program} {w : World} {base : Heap}
theorem tl_at (c : Says file fa fn K) (i : Nat) (hi : i < 54) {b : Bool} (e : (tlB file K)[i]? = some b) : b = true := by
  rw [c.b, List.getElem?_replicate, if_pos hi] at e
  exact (Option.some.inj e).symm
theorem def_of (X : K.In h) (G : h.Ns mainGlobals mg) (c : Says file fa fn K) (i n : Nat) (x : Str) (k : List (Str × Dv)) (h1 : fn[i]? = some (dd n x k)) (h2 : fa[i]? = some (.glo x)) : DefAt K mg (K16.top n) x ((dd n x k).kws K) := by
  obtain ⟨fd, F⟩ := c.d.def_ i h1
  exact ⟨_, fd, glo_ok X G (c.d.fact i h2), F⟩
theorem tx_of (X : K.In h) (G : h.Ns mainGlobals mg) (c : Says file fa fn K) : Tx mg where
  n_len := free_ok X G (c.d.fact 51 (f := .free "len") rfl)
  n_range := free_ok X G (c.d.fact 52 (f := .free "range") rfl)
  n_sorted := free_ok X G (c.d.fact 53 (f := .free "sorted") rfl)
  n_list := free_ok X G (c.d.fact 54 (f := .free "list") rfl)
  n_tuple := free_ok X G (c.d.fact 55 (f := .free "tuple") rfl)
  n_min := free_ok X G (c.d.fact 56 (f := .free "min") rfl)
  n_max := free_ok X G (c.d.fact 57 (f := .free "max") rfl)
  n_abs := free_ok X G (c.d.fact 58 (f := .free "abs") rfl)
  n_int := free_ok X G (c.d.fact 59 (f := .free "int") rfl)
  n_isinstance := free_ok X G (c.d.fact 60 (f := .free "isinstance") rfl)
  n_enumerate := free_ok X G (c.d.fact 61 (f := .free "enumerate") rfl)
  n_bool := free_ok X G (c.d.fact 62 (f := .free "bool") rfl)
  n_str := free_ok X G (c.d.fact 63 (f := .free "str") rfl)
  c_MAX_NODES := int_ok X G (c.d.fact 65 (f := .int "MAX_NODES" 64) rfl)
  c_MAX_LISTED := int_ok X G (c.d.fact 66 (f := .int "MAX_LISTED" 6) rfl)
  c_MAX_SIMPLE := int_ok X G (c.d.fact 67 (f := .int "MAX_SIMPLE" 4) rfl)
  c_MAX_LOOPED := int_ok X G (c.d.fact 68 (f := .int "MAX_LOOPED" 3) rfl)
  c_MAX_MAPS := int_ok X G (c.d.fact 69 (f := .int "MAX_MAPS" 4096) rfl)
  c_MAX_RENAMED := int_ok X G (c.d.fact 70 (f := .int "MAX_RENAMED" 9) rfl)
  c_MAX_TOLD := int_ok X G (c.d.fact 71 (f := .int "MAX_TOLD" 4) rfl)
  c_MAX_TOLD_WITH_LOOPS := int_ok X G (c.d.fact 72 (f := .int "MAX_TOLD_WITH_LOOPS" 3) rfl)
abbrev aC (K : PySem.W.Frag) : Addr := ga K "TooLarge"
abbrev aI (K : PySem.W.Frag) : Addr := ma K (aC K) "__init__"
theorem tl_of (X : K.In h) (G : h.Ns mainGlobals mg) (c : Says file fa fn K) : TLTxt R.prog K mg (aC K) (aI K) where
  gC := glo_ok X G (c.d.fact 47 (f := .glo "TooLarge") rfl)
  cls := clsB_ok (tl_at c 0 (by decide) rfl)
  sa := eqO_ok (tl_at c 1 (by decide) rfl)
  noN := eqO_ok (tl_at c 2 (by decide) rfl)
  iC := eqO_ok (tl_at c 3 (by decide) rfl)
  tC := of_decide_eq_true (tl_at c 4 (by decide) rfl)
  kC := tl_at c 5 (by decide) rfl
  exC := of_decide_eq_true (tl_at c 6 (by decide) rfl)
  veC := of_decide_eq_true (tl_at c 7 (by decide) rfl)
  ccC := of_decide_eq_true (tl_at c 8 (by decide) rfl)
  tyC := of_decide_eq_true (tl_at c 9 (by decide) rfl)
  hdC := tl_at c 10 (by decide) rfl
  st := eqO_ok (tl_at c 11 (by decide) rfl)
  su := free_ok X G (c.d.fact 64 (f := .free "super") rfl)
  up := eqO_ok (tl_at c 12 (by decide) rfl)
  fn := fnB_ok (tl_at c 13 (by decide) rfl) c.f
  top := by decide +kernel
theorem er_of (X : K.In h) (G : h.Ns mainGlobals mg) (c : Says file fa fn K) : ErT K mg (aC K) (ga K "WebError") (ga K "UnfitWeb") (ga K "NoResult") where
  ex := ⟨eqO_ok (tl_at c 14 (by decide) rfl), eqO_ok (tl_at c 15 (by decide) rfl), of_decide_eq_true (tl_at c 6 (by decide) rfl), tl_at c 10 (by decide) rfl, eqO_ok (tl_at c 16 (by decide) rfl), eqO_ok (tl_at c 17 (by decide) rfl), of_decide_eq_true (tl_at c 18 (by decide) rfl), of_decide_eq_true (tl_at c 19 (by decide) rfl)⟩
  xf := ⟨eqO_ok (tl_at c 14 (by decide) rfl), eqO_ok (tl_at c 15 (by decide) rfl), of_decide_eq_true (tl_at c 6 (by decide) rfl), tl_at c 10 (by decide) rfl⟩
  no := eqO_ok (tl_at c 2 (by decide) rfl)
  gC := glo_ok X G (c.d.fact 47 (f := .glo "TooLarge") rfl)
  gW := glo_ok X G (c.d.fact 48 (f := .glo "WebError") rfl)
  gU := glo_ok X G (c.d.fact 49 (f := .glo "UnfitWeb") rfl)
  gN := glo_ok X G (c.d.fact 50 (f := .glo "NoResult") rfl)
  eW := of_decide_eq_true (tl_at c 20 (by decide) rfl)
  kC := of_decide_eq_true (tl_at c 21 (by decide) rfl)
  kU := of_decide_eq_true (tl_at c 22 (by decide) rfl)
  kN := of_decide_eq_true (tl_at c 23 (by decide) rfl)
theorem kit_bool (c : Says file fa fn K) : KitC K "bool" := ⟨fun t ht => by
  simp only [List.mem_cons, List.not_mem_nil, or_false] at ht
  rcases ht with rfl | rfl | rfl | rfl | rfl | rfl
  · exact of_decide_eq_true (tl_at c 24 (by decide) rfl)
  · exact of_decide_eq_true (tl_at c 25 (by decide) rfl)
  · exact of_decide_eq_true (tl_at c 26 (by decide) rfl)
  · exact of_decide_eq_true (tl_at c 27 (by decide) rfl)
  · exact of_decide_eq_true (tl_at c 28 (by decide) rfl)
  · exact of_decide_eq_true (tl_at c 29 (by decide) rfl)⟩
theorem kit_int (c : Says file fa fn K) : KitC K "int" := ⟨fun t ht => by
  simp only [List.mem_cons, List.not_mem_nil, or_false] at ht
  rcases ht with rfl | rfl | rfl | rfl | rfl | rfl
  · exact of_decide_eq_true (tl_at c 30 (by decide) rfl)
  · exact of_decide_eq_true (tl_at c 31 (by decide) rfl)
  · exact of_decide_eq_true (tl_at c 32 (by decide) rfl)
  · exact of_decide_eq_true (tl_at c 33 (by decide) rfl)
  · exact of_decide_eq_true (tl_at c 34 (by decide) rfl)
  · exact of_decide_eq_true (tl_at c 35 (by decide) rfl)⟩
theorem kit_str (c : Says file fa fn K) : KitC K "str" := ⟨fun t ht => by
  simp only [List.mem_cons, List.not_mem_nil, or_false] at ht
  rcases ht with rfl | rfl | rfl | rfl | rfl | rfl
  · exact of_decide_eq_true (tl_at c 36 (by decide) rfl)
  · exact of_decide_eq_true (tl_at c 37 (by decide) rfl)
  · exact of_decide_eq_true (tl_at c 38 (by decide) rfl)
  · exact of_decide_eq_true (tl_at c 39 (by decide) rfl)
  · exact of_decide_eq_true (tl_at c 40 (by decide) rfl)
  · exact of_decide_eq_true (tl_at c 41 (by decide) rfl)⟩
theorem kit_tuple (c : Says file fa fn K) : KitC K "tuple" := ⟨fun t ht => by
  simp only [List.mem_cons, List.not_mem_nil, or_false] at ht
  rcases ht with rfl | rfl | rfl | rfl | rfl | rfl
  · exact of_decide_eq_true (tl_at c 42 (by decide) rfl)
  · exact of_decide_eq_true (tl_at c 43 (by decide) rfl)
  · exact of_decide_eq_true (tl_at c 44 (by decide) rfl)
  · exact of_decide_eq_true (tl_at c 45 (by decide) rfl)
  · exact of_decide_eq_true (tl_at c 46 (by decide) rfl)
  · exact of_decide_eq_true (tl_at c 47 (by decide) rfl)⟩
theorem kit_list (c : Says file fa fn K) : KitC K "list" := ⟨fun t ht => by
  simp only [List.mem_cons, List.not_mem_nil, or_false] at ht
  rcases ht with rfl | rfl | rfl | rfl | rfl | rfl
  · exact of_decide_eq_true (tl_at c 48 (by decide) rfl)
  · exact of_decide_eq_true (tl_at c 49 (by decide) rfl)
  · exact of_decide_eq_true (tl_at c 50 (by decide) rfl)
  · exact of_decide_eq_true (tl_at c 51 (by decide) rfl)
  · exact of_decide_eq_true (tl_at c 52 (by decide) rfl)
  · exact of_decide_eq_true (tl_at c 53 (by decide) rfl)⟩
theorem chk_E (K : PySem.W.Frag) (C : Addr) (E : XK) (ds : List PyData) : Fcheck_limit K C E ds = Fcheck_limit K C E0 ds := by
  have un : ∀ E, (incheck_limit K C E).run = RS.run C E (rdcheck_limit K C E) := fun _ => rfl
  unfold Fcheck_limit
  rw [un, un]
  simp only [run_seq, run_asg, run_if, run_ifE, run_tb, run_raise, run_test, run_op, run_var, run_c, run_acons, run_anil, run_ret, run_next]
abbrev fLaw (K : PySem.W.Frag) [KitC K "bool"] [KitC K "int"] [KitC K "str"] [KitC K "tuple"] [KitC K "list"] : PF := Flaw K (aC K) (fCell K (aC K)) (fDraws K (aC K)) (fWeb K (aC K)) (fOther K (aC K)) (fHas K (aC K)) (fLcat0 K (aC K)) (fDue K (aC K)) (fSame K (aC K) 8) (fLisd K (aC K)) (fTell K (aC K)) (fHoms K (aC K)) (fCounts K (aC K)) (fProf K (aC K)) (fFewS K (aC K) (fSame K (aC K) 8)) (fPrefS K (aC K) (fSame K (aC K) 8)) (fTrefS K (aC K) (fSame K (aC K) 8)) (fWidS K (aC K) (fSame K (aC K) 8))
theorem law_fn [KitC K "bool"] [KitC K "int"] [KitC K "str"] [KitC K "tuple"] [KitC K "list"] {f : Addr} {fd : FuncData} (X : K.In h) (G : h.Ns mainGlobals mg) (c : Says file fa fn K) (FD : FunD K "law" "law" (defArgs (K16.top 68)) (defBody (K16.top 68)) (defScope (K16.top 68)) [] [] f fd) :
    FnOk R.prog w K mg base (L2.CX R.prog w) 42 f fd ["_law_script"] (spF (aC K) 1 (fLaw K)) := by
  have T := tx_of X G c
  have TL := tl_of X G c
  have Z := er_of X G c
  have nr := okneighbour_rows (P := R.prog) (w := w) (K := K) (base := base) (C := aC K) (f := fNR K (aC K)) T (def_of X G c 0 8 "neighbour_rows" [] rfl rfl)  (fun _ _ => ref_self)
  have fl := okfirst_loop (P := R.prog) (w := w) (K := K) (base := base) (C := aC K) (f := fFL K (aC K)) T (def_of X G c 1 9 "first_loop" [] rfl rfl)  (fun _ _ => ref_self)
  have bit := okbit_of (P := R.prog) (w := w) (K := K) (base := base) (C := aC K) (f := fBit K (aC K)) T (def_of X G c 2 11 "bit_of" [] rfl rfl)  (fun _ _ => ref_self)
  have code := okcode_of (P := R.prog) (w := w) (K := K) (base := base) (C := aC K) (f := fCode K (aC K)) T (def_of X G c 3 12 "code_of" [] rfl rfl) bit (fun _ _ => ref_self)
  have woc := okweb_of_code (P := R.prog) (w := w) (K := K) (base := base) (C := aC K) (f := fWoc K (aC K)) T (def_of X G c 4 13 "web_of_code" [] rfl rfl) bit (fun _ _ => ref_self)
  have ren := okall_renamings (P := R.prog) (w := w) (K := K) (base := base) (C := aC K) (g := gRen K (aC K)) T (def_of X G c 5 16 "all_renamings" [] rfl rfl)  (fun _ _ => ref_self)
  have und := okcode_under (P := R.prog) (w := w) (K := K) (base := base) (C := aC K) (f := fUnd K (aC K)) T (def_of X G c 6 17 "code_under" [] rfl rfl) bit (fun _ _ => ref_self)
  have chk := okcheck_limit (P := R.prog) (w := w) (K := K) (base := base) (C := aC K) (f := fChk K (aC K)) T TL (def_of X G c 7 21 "check_limit" [] rfl rfl)  (fun E ds _ => .inr (chk_E K (aC K) E ds))
  have wit := okcode_with (P := R.prog) (w := w) (K := K) (base := base) (C := aC K) (f := fWith K (aC K)) T (def_of X G c 8 22 "code_with" [] rfl rfl)  (fun _ _ => ref_self)
  have lst := okis_least (P := R.prog) (w := w) (K := K) (base := base) (C := aC K) (f := fLst K (aC K)) T (def_of X G c 9 23 "is_least" [] rfl rfl) code und (fun _ _ => ref_self)
  have webs := okall_webs (P := R.prog) (w := w) (K := K) (base := base) (C := aC K) (g := gWebsT) T (def_of X G c 10 24 "all_webs" [("loops", .bl false)] rfl rfl) chk ren bit woc wit lst (fun ds hl => webs_ref ds hl)
  have cat := okcatalogue (P := R.prog) (w := w) (K := K) (base := base) (C := aC K) (f := catT) T (def_of X G c 11 25 "catalogue" [("loops", .bl false)] rfl rfl) chk webs (fun E ds hl => cat_ref E ds hl)
  have maps := okcount_maps (P := R.prog) (w := w) (K := K) (base := base) (C := aC K) (f := fMaps K (aC K)) T TL (def_of X G c 12 28 "count_maps" [] rfl rfl)  (fun E ds _ => .inr (maps_E K (aC K) E ds))
  have fits := okfits (P := R.prog) (w := w) (K := K) (base := base) (C := aC K) (f := fFits K (aC K)) T (def_of X G c 13 29 "fits" [] rfl rfl)  (fun _ _ => ref_self)
  have homs := okhoms (P := R.prog) (w := w) (K := K) (base := base) (C := aC K) (g := gHoms K (aC K)) T (def_of X G c 14 30 "homs" [] rfl rfl) maps nr fits (fun _ _ => ref_self)
  have ch := okcount_homs (P := R.prog) (w := w) (K := K) (base := base) (C := aC K) (f := fHoms K (aC K)) T (def_of X G c 15 31 "count_homs" [] rfl rfl) homs (fun _ _ => ref_self)
  have may := okmay_follow (P := R.prog) (w := w) (K := K) (base := base) (C := aC K) (f := fMay K (aC K)) T (def_of X G c 16 34 "may_follow" [] rfl rfl)  (fun _ _ => ref_self)
  have comp : Cal R.prog w K mg base 12 "completed" [] (spF (aC K) 3 (fComp K (aC K))) := Cal.lift (by decide) (rec_cal (F := fun f => Fcompleted K (aC K) f (fMay K (aC K))) (cal_bad (ps := ["first", "second", "row"]) (def_of X G c 17 35 "completed" [] rfl rfl) rfl (fun _ _ _ _ _ _ us hl => match us, hl with | [_, _, _], _ => rfl)) (fun k f hk cc => okcompleted hk T (def_of X G c 17 35 "completed" [] rfl rfl) cc may (fun _ _ => ref_self)) 6)
  have find := okfind_renaming (P := R.prog) (w := w) (K := K) (base := base) (C := aC K) (f := fFind K (aC K)) T (def_of X G c 18 36 "find_renaming" [] rfl rfl) comp nr (fun _ _ => ref_self)
  have hp := okhom_profileR (P := R.prog) (w := w) (K := K) (base := base) (C := aC K) (f := fHp K (aC K)) T (def_of X G c 19 40 "hom_profile" [("loops", .bl false)] rfl rfl) cat.1 cat.2 maps ch (fun E ds _ => .inr (hp_E K (aC K) E _ _ _ ds))
  have tw := oktelling_web (P := R.prog) (w := w) (K := K) (base := base) (C := aC K) (f := fTw K (aC K)) T TL (def_of X G c 20 41 "telling_web" [] rfl rfl) fl find cat.1 cat.2 ch (fun E ds _ => .inr (tw_E K (aC K) E _ _ _ _ ds))
  have cell := oklaw_cell (P := R.prog) (w := w) (K := K) (base := base) (C := aC K) (f := fCell K (aC K)) T (def_of X G c 21 43 "_law_cell" [] rfl rfl)  (fun _ _ => ref_self)
  have draws := oklaw_draws (P := R.prog) (w := w) (K := K) (base := base) (C := aC K) (f := fDraws K (aC K)) T (def_of X G c 22 44 "_law_draws" [] rfl rfl) cell (fun _ _ => ref_self)
  have same : Cal R.prog w K mg base 40 "_law_same" [] (spF (aC K) 2 (fSame K (aC K) 8)) := Cal.lift (by decide) (rec_cal (F := fun f => Flaw_same K (aC K) f) (cal_bad (ps := ["_law_first", "_law_second"]) (def_of X G c 23 45 "_law_same" [] rfl rfl) rfl (fun _ _ _ _ _ _ us hl => match us, hl with | [_, _], _ => rfl)) (fun k f hk cc => oklaw_same hk T (def_of X G c 23 45 "_law_same" [] rfl rfl) cc (fun _ _ => ref_self)) 8)
  have web := oklaw_web (P := R.prog) (w := w) (K := K) (base := base) (C := aC K) (f := fWeb K (aC K)) T (def_of X G c 24 46 "_law_web" [] rfl rfl)  (fun _ _ => ref_self)
  have mx := oklaw_matrix (P := R.prog) (w := w) (K := K) (base := base) (C := aC K) (f := fMx K (aC K)) T (def_of X G c 25 47 "_law_matrix" [] rfl rfl)  (fun _ _ => ref_self)
  have shuf := oklaw_shuffle (P := R.prog) (w := w) (K := K) (base := base) (C := aC K) (f := fShuf K (aC K)) T (def_of X G c 26 48 "_law_shuffle" [] rfl rfl)  (fun _ _ => ref_self)
  have rena := oklaw_renamed (P := R.prog) (w := w) (K := K) (base := base) (C := aC K) (f := fRena K (aC K)) T (def_of X G c 27 49 "_law_renamed" [] rfl rfl)  (fun _ _ => ref_self)
  have perm := oklaw_permutations (P := R.prog) (w := w) (K := K) (base := base) (C := aC K) (f := fPerm K (aC K)) T (def_of X G c 28 50 "_law_permutations" [] rfl rfl)  (fun _ _ => ref_self)
  have lcode := oklaw_code (P := R.prog) (w := w) (K := K) (base := base) (C := aC K) (f := fLcode K (aC K)) T (def_of X G c 29 51 "_law_code" [] rfl rfl)  (fun _ _ => ref_self)
  have llst := oklaw_is_least (P := R.prog) (w := w) (K := K) (base := base) (C := aC K) (f := fLlst K (aC K)) T (def_of X G c 30 52 "_law_is_least" [] rfl rfl) lcode (fun _ _ => ref_self)
  have lcat := oklaw_catalogue (P := R.prog) (w := w) (K := K) (base := base) (C := aC K) (f := fLcat0 K (aC K)) T (def_of X G c 31 53 "_law_catalogue" [] rfl rfl) perm llst (fun _ _ => ref_self)
  have lcnt := oklaw_count (P := R.prog) (w := w) (K := K) (base := base) (C := aC K) (f := fLcnt K (aC K)) T (def_of X G c 32 54 "_law_count" [] rfl rfl)  (fun _ _ => ref_self)
  have alike := oklaw_alike (P := R.prog) (w := w) (K := K) (base := base) (C := aC K) (f := fAlike K (aC K)) T (def_of X G c 33 55 "_law_alike" [] rfl rfl) lcode perm (fun _ _ => ref_self)
  have due := oklaw_due (P := R.prog) (w := w) (K := K) (base := base) (C := aC K) (f := fDue K (aC K)) T (def_of X G c 34 56 "_law_due" [] rfl rfl) alike mx lcnt (fun _ _ => ref_self)
  have has := oklaw_has_loop (P := R.prog) (w := w) (K := K) (base := base) (C := aC K) (f := fHas K (aC K)) T (def_of X G c 35 57 "_law_has_loop" [] rfl rfl)  (fun _ _ => ref_self)
  have lisd := oklaw_listed (P := R.prog) (w := w) (K := K) (base := base) (C := aC K) (f := fLisd K (aC K)) T (def_of X G c 36 58 "_law_listed" [] rfl rfl) cat.1 cat.2 (fun _ _ => ref_self)
  have tell := oktell (P := R.prog) (w := w) (K := K) (base := base) (C := aC K) (f := fTell K (aC K)) Z T (def_of X G c 37 59 "_law_telling" [] rfl rfl) tw (fun _ _ => ref_self)
  have prof := okprof (P := R.prog) (w := w) (K := K) (base := base) (C := aC K) (f := fProf K (aC K)) Z T (def_of X G c 38 60 "_law_profile" [] rfl rfl) hp.1 hp.2 (fun _ _ => ref_self)
  have prof2 : Cal R.prog w K mg base 33 "_law_profile" [] (spF (aC K) 4 (fProf K (aC K))) := prof.mono spF_fr
  have counts := oklaw_counts (P := R.prog) (w := w) (K := K) (base := base) (C := aC K) (f := fCounts K (aC K)) T (def_of X G c 39 61 "_law_counts" [] rfl rfl) mx lcnt (fun _ _ => ref_self)
  have few := oklaw_few_told (P := R.prog) (w := w) (K := K) (base := base) (C := aC K) (f := fFewS K (aC K) (fSame K (aC K) 8)) T (def_of X G c 40 62 "_law_few_told" [] rfl rfl) counts lcat prof same (fun _ _ => ref_self)
  have tref := oklaw_telling_refused (P := R.prog) (w := w) (K := K) (base := base) (C := aC K) (f := fTrefS K (aC K) (fSame K (aC K) 8)) T (def_of X G c 41 63 "_law_telling_refused" [] rfl rfl) same tell (fun _ _ => ref_self)
  have pref := oklaw_profile_refused (P := R.prog) (w := w) (K := K) (base := base) (C := aC K) (f := fPrefS K (aC K) (fSame K (aC K) 8)) T (def_of X G c 42 64 "_law_profile_refused" [] rfl rfl) same prof2 (fun _ _ => ref_self)
  have wid := oklaw_widest (P := R.prog) (w := w) (K := K) (base := base) (C := aC K) (f := fWidS K (aC K) (fSame K (aC K) 8)) T (def_of X G c 43 65 "_law_widest" [] rfl rfl) same prof2 (fun _ _ => ref_self)
  have mov := oklaw_moved (P := R.prog) (w := w) (K := K) (base := base) (C := aC K) (f := fMov K (aC K)) T (def_of X G c 44 66 "_law_moved" [] rfl rfl)  (fun _ _ => ref_self)
  have oth := oklaw_other (P := R.prog) (w := w) (K := K) (base := base) (C := aC K) (f := fOther K (aC K)) T (def_of X G c 45 67 "_law_other" [] rfl rfl) cell web draws rena shuf mov (fun _ _ => ref_self)
  exact fnlaw (f := fLaw K) T FD cell draws web oth has lcat due same lisd tell ch counts prof2 few pref tref wid (fun _ _ => ref_self)
end
end HX
end
section
set_option Elab.async false
set_option linter.all false
set_option warn.classDefReducibility false
set_option synthInstance.maxSize 1000000
set_option synthInstance.maxHeartbeats 4000000
set_option maxRecDepth 100000
set_option maxHeartbeats 4000000
/-! MF: find_renaming by its mirror. -/
namespace DL
open PySem L2 GX
def eqBB : Bool → Bool → Bool
  | true, b => b
  | false, b => !b
def allF (fn sp : List Nat) : Nat → List Nat → Bool
  | _, [] => true
  | i, x :: xs => eqBB (elemN i fn) (elemN x sp) && allF fn sp (i + 1) xs
def mayM (f s : List (List Nat)) (row : List Nat) (p : Nat) : Bool :=
  !(elemN p row || !Nat.beq (f[row.length]?.getD []).length (s[p]?.getD []).length) && (eqBB (elemN row.length (f[row.length]?.getD [])) (elemN p (s[p]?.getD [])) && allF (f[row.length]?.getD []) (s[p]?.getD []) 0 row)
def tryM (F : List Nat → Option (List Nat)) (f s : List (List Nat)) (row : List Nat) : List Nat → Option (List Nat)
  | [] => none
  | p :: ps => match mayM f s row p with
    | true => (match F (row ++ [p]) with
      | some r => some r
      | none => tryM F f s row ps)
    | false => tryM F f s row ps
def compM (f s : List (List Nat)) : Nat → List Nat → Option (List Nat)
  | 0, row => some row
  | k + 1, row => tryM (compM f s k) f s row (List.range s.length)
def optD : Option (List Nat) → PyData
  | none => .none
  | some r => .tuple (iL r)
theorem inD_eN (c : Nat) (l : List Nat) : inD false (.int (c : Int)) (iL l) = some (.bool (elemN c l)) := by rw [elemN_eq]; exact inD_nat l c
theorem ne_bool (x y : Bool) : (roNe).run (.bool x) (.bool y) = some (.bool (!eqBB x y)) := by cases x <;> cases y <;> rfl
theorem ne_nat (x y : Nat) : (roNe).run (.int (x : Int)) (.int (y : Int)) = some (.bool (!Nat.beq x y)) := by
  rw [beq_dec]
  show some (PyData.bool (!decide ((x : Int) = (y : Int)))) = _
  by_cases h : x = y
  · rw [decide_eq_true h, decide_eq_true (by omega)]
  · rw [decide_eq_false h, decide_eq_false (by omega)]
theorem eq_nat (x y : Nat) : (roEq).run (.int (x : Int)) (.int (y : Int)) = some (.bool (Nat.beq x y)) := by
  rw [beq_dec]
  show some (PyData.bool (decide ((x : Int) = (y : Int)))) = _
  by_cases h : x = y
  · rw [decide_eq_true h, decide_eq_true (by omega)]
  · rw [decide_eq_false h, decide_eq_false (by omega)]
section
variable {K : PySem.W.Frag} {C : Addr}
abbrev mfB (K : PySem.W.Frag) : TS := (tSeq (tIfS (tTest (tOp rNe (tOp (rIn K false) (tVar 5) (tOp (rIxL K) (tVar 0) (tVar 4))) (tOp (rIn K false) (tVar 6) (tOp (rIxL K) (tVar 1) (tVar 3))))) (tSeq (tRet (tC (.bl false))) tNext) tNext) tNext)
theorem mfL_ok {f s : List (List Nat)} {node p : Nat} {s2 : Sl} (hn : node < f.length) (hp : p < s.length) : ∀ (row : List Nat) (i : Nat) (s5 s6 : Sl), ∃ s5' s6', forR (rgPair (K := K) 5 6).run (RS.run C E0 (mfB K)) (enumD i (iL row)) [.pu (.list (lL f)), .pu (.list (lL s)), s2, .pu (.int (p : Int)), .pu (.int (node : Int)), s5, s6] =
    match allF (f[node]?.getD []) (s[p]?.getD []) i row with
    | true => .nx [.pu (.list (lL f)), .pu (.list (lL s)), s2, .pu (.int (p : Int)), .pu (.int (node : Int)), s5', s6']
    | false => .rt (.bool false)
  | [], i, s5, s6 => ⟨s5, s6, rfl⟩
  | x :: row, i, s5, s6 => by
    obtain ⟨a5, a6, ih⟩ := mfL_ok (s2 := s2) hn hp row (i + 1) (.pu (.int (i : Int))) (.pu (.int (x : Int)))
    have g1 : (roIxL (K := K)).run (.list (lL f)) (.int (node : Int)) = some (.list (iL (f[node]?.getD []))) := by
      rw [run_ixL, ixD_lL hn, List.getElem?_eq_getElem hn]; rfl
    have g2 : (roIxL (K := K)).run (.list (lL s)) (.int (p : Int)) = some (.list (iL (s[p]?.getD []))) := by
      rw [run_ixL, ixD_lL hp, List.getElem?_eq_getElem hp]; rfl
    show ∃ s5' s6', forR _ _ (.tuple [.int (i : Int), .int (x : Int)] :: enumD (i + 1) (iL row)) _ = _
    rw [forR]
    rw [show (rgPair (K := K) 5 6).run [.pu (.list (lL f)), .pu (.list (lL s)), s2, .pu (.int (p : Int)), .pu (.int (node : Int)), s5, s6] (.tuple [.int (i : Int), .int (x : Int)]) = some [.pu (.list (lL f)), .pu (.list (lL s)), s2, .pu (.int (p : Int)), .pu (.int (node : Int)), .pu (.int (i : Int)), .pu (.int (x : Int))] from rfl]
    simp only []
    have tt : runT (RT.run C E0 (tTest (tOp rNe (tOp (rIn K false) (tVar 5) (tOp (rIxL K) (tVar 0) (tVar 4))) (tOp (rIn K false) (tVar 6) (tOp (rIxL K) (tVar 1) (tVar 3)))))) [.pu (.list (lL f)), .pu (.list (lL s)), s2, .pu (.int (p : Int)), .pu (.int (node : Int)), .pu (.int (i : Int)), .pu (.int (x : Int))] = .ok (!eqBB (elemN i (f[node]?.getD [])) (elemN x (s[p]?.getD []))) := by
      simp only [runT, run_testA, run_opA, run_varA, List.getElem?_cons_zero, List.getElem?_cons_succ, bd_ok, ofO, g1, g2, run_in, inD_eN, ne_bool, toB]
    rw [run_seqA, run_ifA, tt]
    unfold allF
    cases eqBB (elemN i (f[node]?.getD [])) (elemN x (s[p]?.getD [])) with
    | true =>
      refine ⟨a5, a6, ?_⟩
      rw [Bool.not_true, ifR_f, run_nextA, seqR_nx, run_nextA, Bool.true_and]
      exact ih
    | false =>
      refine ⟨a5, a6, ?_⟩
      rw [Bool.not_false, ifR_t, Bool.false_and]
      rfl
theorem may_ok {f s : List (List Nat)} {row : List Nat} {p : Nat} (hn : row.length < f.length) (hp : p < s.length) : fMay K C [.list (lL f), .list (lL s), .list (iL row), .int (p : Int)] = .ok (.bool (mayM f s row p)) := by
  have un : (inmay_follow K C).run = RS.run C E0 (rdmay_follow K C) := rfl
  have g1 : (roIxL (K := K)).run (.list (lL f)) (.int (row.length : Int)) = some (.list (iL (f[row.length]?.getD []))) := by
    rw [run_ixL, ixD_lL hn, List.getElem?_eq_getElem hn]; rfl
  have g2 : (roIxL (K := K)).run (.list (lL s)) (.int (p : Int)) = some (.list (iL (s[p]?.getD []))) := by
    rw [run_ixL, ixD_lL hp, List.getElem?_eq_getElem hp]; rfl
  show outF0 ((inmay_follow K C).run [.pu (.list (lL f)), .pu (.list (lL s)), .pu (.list (iL row)), .pu (.int (p : Int)), .any, .any, .any]) = _
  rw [un, run_seqA]
  rw [show RS.run C E0 (tAsg (tCB (rLenQ K) (tCons (tVar 2) tNil)) (gName 4)) [.pu (.list (lL f)), .pu (.list (lL s)), .pu (.list (iL row)), .pu (.int (p : Int)), .any, .any, .any] = .nx [.pu (.list (lL f)), .pu (.list (lL s)), .pu (.list (iL row)), .pu (.int (p : Int)), .pu (.int (row.length : Int)), .any, .any] by
    simp only [run_asgA, runW, run_cbA, run_aconsA, run_anilA, run_varA, List.getElem?_cons_zero, List.getElem?_cons_succ, bd_ok, run_len, iL_len, ofO, asgR, List.set_cons_zero, List.set_cons_succ], seqR_nx, run_seqA, run_ifA]
  have t1 : runT (RT.run C E0 (tOr (tTest (tOp (rIn K false) (tVar 3) (tVar 2))) (tTest (tOp rNe (tCB (rLenQ K) (tCons (tOp (rIxL K) (tVar 0) (tVar 4)) tNil)) (tCB (rLenQ K) (tCons (tOp (rIxL K) (tVar 1) (tVar 3)) tNil)))))) [.pu (.list (lL f)), .pu (.list (lL s)), .pu (.list (iL row)), .pu (.int (p : Int)), .pu (.int (row.length : Int)), .any, .any] = .ok (elemN p row || !Nat.beq (f[row.length]?.getD []).length (s[p]?.getD []).length) := by
    simp only [runT, run_torA, run_testA, run_opA, run_cbA, run_aconsA, run_anilA, run_varA, List.getElem?_cons_zero, List.getElem?_cons_succ, bd_ok, ofO, g1, g2, run_in, inD_eN, run_len, iL_len, ne_nat, toB]
    cases elemN p row <;> rfl
  rw [t1]
  unfold mayM
  cases (elemN p row || !Nat.beq (f[row.length]?.getD []).length (s[p]?.getD []).length) with
  | true => rw [ifR_t]; rfl
  | false =>
    rw [ifR_f, run_nextA, seqR_nx, run_seqA, run_ifA]
    have t2 : runT (RT.run C E0 (tTest (tOp rNe (tOp (rIn K false) (tVar 4) (tOp (rIxL K) (tVar 0) (tVar 4))) (tOp (rIn K false) (tVar 3) (tOp (rIxL K) (tVar 1) (tVar 3)))))) [.pu (.list (lL f)), .pu (.list (lL s)), .pu (.list (iL row)), .pu (.int (p : Int)), .pu (.int (row.length : Int)), .any, .any] = .ok (!eqBB (elemN row.length (f[row.length]?.getD [])) (elemN p (s[p]?.getD []))) := by
      simp only [runT, run_testA, run_opA, run_varA, List.getElem?_cons_zero, List.getElem?_cons_succ, bd_ok, ofO, g1, g2, run_in, inD_eN, ne_bool, toB]
    rw [t2]
    cases eqBB (elemN row.length (f[row.length]?.getD [])) (elemN p (s[p]?.getD [])) with
    | false => rw [Bool.not_false, ifR_t]; rfl
    | true =>
      rw [Bool.not_true, ifR_f, run_nextA, seqR_nx, run_seqA, run_forA]
      have hi : RI.run C E0 (iEnum K (tCons (tVar 2) tNil)) [.pu (.list (lL f)), .pu (.list (lL s)), .pu (.list (iL row)), .pu (.int (p : Int)), .pu (.int (row.length : Int)), .any, .any] = some (enumD 0 (iL row)) := rfl
      obtain ⟨a5, a6, hl⟩ := mfL_ok (K := K) (C := C) (s2 := .pu (.list (iL row))) hn hp row 0 .any .any
      rw [hi, forA_some, hl]
      cases allF (f[row.length]?.getD []) (s[p]?.getD []) 0 row <;> rfl
/-! ### completed -/
abbrev cmB (K : PySem.W.Frag) (C : Addr) (fc : PF) : TS := (tSeq (tIfS (tB (tCall (spF C 4 (fMay K C)) [] E0 (tCons (tVar 0) (tCons (tVar 1) (tCons (tVar 2) (tCons (tVar 3) tNil)))))) (tSeq (tAsg (tCall (spF C 3 fc) [] E0 (tCons (tVar 0) (tCons (tVar 1) (tCons (tOp rCat (tVar 2) (tLst (tCons (tVar 3) tNil))) tNil)))) (gName 4)) (tSeq (tIfS (tTest (tOp rNotN (tVar 4) (tC .non))) (tSeq (tRet (tVar 4)) tNext) tNext) tNext)) tNext) tNext)
theorem cmL_ok {fc : PF} {F : List Nat → Option (List Nat)} {f s : List (List Nat)} {row : List Nat} (hn : row.length < f.length) (hz : row.length ≤ 1000) (H : ∀ p : Nat, p < s.length → fc [.list (lL f), .list (lL s), .list (iL (row ++ [p]))] = .ok (optD (F (row ++ [p])))) : ∀ (ps : List Nat) (s3 s4 : Sl), (∀ p ∈ ps, p < s.length) →
    ∃ s3' s4', forR (rgName 3).run (RS.run C E0 (cmB K C fc)) (iL ps) [.pu (.list (lL f)), .pu (.list (lL s)), .pu (.list (iL row)), s3, s4] =
      match tryM F f s row ps with
      | some r => .rt (.tuple (iL r))
      | none => .nx [.pu (.list (lL f)), .pu (.list (lL s)), .pu (.list (iL row)), s3', s4']
  | [], s3, s4, _ => ⟨s3, s4, rfl⟩
  | p :: ps, s3, s4, h => by
    have hp := h p (List.mem_cons_self ..)
    have hm : runD 4 (fMay K C) [] [.list (lL f), .list (lL s), .list (iL row), .int (p : Int)] = .ok (.bool (mayM f s row p)) := runD_of (may_ok hn hp) rfl
    have tt : ∀ s4 : Sl, runT (RT.run C E0 (tB (tCall (spF C 4 (fMay K C)) [] E0 (tCons (tVar 0) (tCons (tVar 1) (tCons (tVar 2) (tCons (tVar 3) tNil))))))) [.pu (.list (lL f)), .pu (.list (lL s)), .pu (.list (iL row)), .pu (.int (p : Int)), s4] = .ok (mayM f s row p) := fun s4 => by
      simp only [runT, run_tbA, run_call0A, okR, run_aconsA, run_anilA, run_varA, List.getElem?_cons_zero, List.getElem?_cons_succ, bd_ok, hm, toB]
    show ∃ s3' s4', forR _ _ (.int (p : Int) :: iL ps) _ = _
    rw [forR, tryM]
    have ih := fun s4 => cmL_ok hn hz H ps (.pu (.int (p : Int))) s4 fun q hq => h q (List.mem_cons_of_mem _ hq)
    simp only [run_gname, List.set_cons_zero, List.set_cons_succ] at ih ⊢
    rw [run_seqA, run_ifA, tt]
    cases mayM f s row p with
    | false =>
      obtain ⟨a3, a4, ih⟩ := ih s4
      refine ⟨a3, a4, ?_⟩
      rw [ifR_f, run_nextA, seqR_nx, run_nextA]
      exact ih
    | true =>
      have hc : runD 3 fc [] [.list (lL f), .list (lL s), .list (iL (row ++ [p]))] = .ok (optD (F (row ++ [p]))) := runD_of (H p hp) rfl
      have ec : (roCat).run (.list (iL row)) (.list [.int (p : Int)]) = some (.list (iL (row ++ [p]))) := by
        show (if (iL row).length + 1 ≤ 100000 then some (PyData.list (iL row ++ [.int (p : Int)])) else none) = _
        rw [iL_len, if_pos (by omega), iL_app]
        rfl
      have l1 : [PyData.int (p : Int)].length ≤ 100000 := by simp
      rw [ifR_t, run_seqA]
      rw [show RS.run C E0 (tAsg (tCall (spF C 3 fc) [] E0 (tCons (tVar 0) (tCons (tVar 1) (tCons (tOp rCat (tVar 2) (tLst (tCons (tVar 3) tNil))) tNil)))) (gName 4)) [.pu (.list (lL f)), .pu (.list (lL s)), .pu (.list (iL row)), .pu (.int (p : Int)), s4] = .nx [.pu (.list (lL f)), .pu (.list (lL s)), .pu (.list (iL row)), .pu (.int (p : Int)), .pu (optD (F (row ++ [p])))] by
        simp only [run_asgA, runW, run_call0A, okR, run_aconsA, run_anilA, run_opA, run_lstA, run_varA, List.getElem?_cons_zero, List.getElem?_cons_succ, bd_ok, ofO, l1, if_true, ec, hc, asgR, List.set_cons_zero, List.set_cons_succ], seqR_nx]
      cases F (row ++ [p]) with
      | some r =>
        refine ⟨s3, s4, ?_⟩
        rfl
      | none =>
        obtain ⟨a3, a4, ih⟩ := ih (.pu .none)
        refine ⟨a3, a4, ?_⟩
        exact ih
theorem rng_iL {n : Nat} : rangeD 0 n = iL (List.range n) := by
  unfold rangeD iL
  refine List.map_congr_left fun i _ => ?_
  rw [Int.zero_add]
theorem comp_ok {f s : List (List Nat)} (hs : s.length ≤ 1000) : ∀ (k d : Nat) (row : List Nat), k < d → row.length + k = f.length → row.length + k ≤ 900 → recF (fun g => Fcompleted K C g (fMay K C)) d [.list (lL f), .list (lL s), .list (iL row)] = .ok (optD (compM f s k row))
  | k, 0, row, hd, _, _ => absurd hd (by omega)
  | k, d + 1, row, hd, hk, hz => by
    show Fcompleted K C (recF (fun g => Fcompleted K C g (fMay K C)) d) (fMay K C) _ = _
    generalize hfc : recF (fun g => Fcompleted K C g (fMay K C)) d = fc
    have un : (incompleted K C fc (fMay K C)).run = RS.run C E0 (rdcompleted K C fc (fMay K C)) := rfl
    show outF0 ((incompleted K C fc (fMay K C)).run [.pu (.list (lL f)), .pu (.list (lL s)), .pu (.list (iL row)), .any, .any]) = _
    have lf : (lL f).length = f.length := by unfold lL; rw [List.length_map]
    have ls : (lL s).length = s.length := by unfold lL; rw [List.length_map]
    rw [un, run_seqA, run_ifA]
    have tt : runT (RT.run C E0 (tTest (tOp rEq (tCB (rLenQ K) (tCons (tVar 2) tNil)) (tCB (rLenQ K) (tCons (tVar 0) tNil))))) [.pu (.list (lL f)), .pu (.list (lL s)), .pu (.list (iL row)), .any, .any] = .ok (Nat.beq row.length f.length) := by
      simp only [runT, run_testA, run_opA, run_cbA, run_aconsA, run_anilA, run_varA, List.getElem?_cons_zero, List.getElem?_cons_succ, bd_ok, ofO, run_len, iL_len, lf, eq_nat, toB]
    rw [tt, beq_dec]
    cases k with
    | zero =>
      rw [decide_eq_true (by omega), ifR_t]
      rfl
    | succ k =>
      rw [decide_eq_false (by omega), ifR_f, run_nextA, seqR_nx, run_seqA, run_forA]
      have hi : RI.run C E0 (iRng1 (tCons (tCB (rLenQ K) (tCons (tVar 1) tNil)) tNil)) [.pu (.list (lL f)), .pu (.list (lL s)), .pu (.list (iL row)), .any, .any] = some (iL (List.range s.length)) := by
        have e : RA.run C E0 (tCons (tCB (rLenQ K) (tCons (tVar 1) tNil)) tNil) [.pu (.list (lL f)), .pu (.list (lL s)), .pu (.list (iL row)), .any, .any] = .ok [.int (s.length : Int)] := by
          simp only [run_aconsA, run_anilA, run_cbA, run_varA, List.getElem?_cons_zero, List.getElem?_cons_succ, bd_ok, ofO, run_len, ls]
        rw [run_rng1A, runA, e, ← rng_iL]
        show (if s.length ≤ 1000000 then some (rangeD 0 s.length) else none) = _
        rw [if_pos (by omega)]
      obtain ⟨a3, a4, hl⟩ := cmL_ok (K := K) (C := C) (fc := fc) (F := compM f s k) (f := f) (s := s) (row := row) (by omega) (by omega) (fun p hp => by
        rw [← hfc]
        exact comp_ok hs k d (row ++ [p]) (by omega) (by rw [List.length_append, List.length_singleton]; omega) (by rw [List.length_append, List.length_singleton]; omega)) (List.range s.length) .any .any (fun p hp => List.mem_range.mp hp)
      rw [hi, forA_some, hl, compM]
      cases tryM (compM f s k) f s row (List.range s.length) <;> rfl
/-! ### find_renaming -/
def findM (a b : Wb) : Option (List Nat) := match Nat.beq a.1 b.1 && Nat.beq a.2.length b.2.length with
  | true => compM (nrM a) (nrM b) a.1 []
  | false => none
theorem find_ok {a b : Wb} (na : fNR K C [toD a] = .ok (.list (lL (nrM a)))) (nb : fNR K C [toD b] = .ok (.list (lL (nrM b)))) (la : a.1 ≤ 5) (lb : b.1 ≤ 5) : fFind K C [toD a, toD b] = .ok (optD (findM a b)) := by
  have un : (infind_renaming K C (fComp K C) (fNR K C)).run = RS.run C E0 (rdfind_renaming K C (fComp K C) (fNR K C)) := rfl
  have ea : ∀ a : Wb, (roIxT (K := K)).run (toD a) (.int 0) = some (.int (a.1 : Int)) := fun _ => rfl
  have eb : ∀ a : Wb, (roIxT (K := K)).run (toD a) (.int 1) = some (.tuple (a.2.map eP)) := fun _ => rfl
  have lt : decide ((9 : Int) < (a.1 : Int)) = false := decide_eq_false (by omega)
  show outF0 ((infind_renaming K C (fComp K C) (fNR K C)).run [.pu (toD a), .pu (toD b)]) = _
  rw [un, run_seqA, run_ifA]
  have t1 : runT (RT.run C E0 (tTest (tOp rNe (tOp (rIxT K) (tVar 0) (tC (.int 0))) (tOp (rIxT K) (tVar 1) (tC (.int 0)))))) [.pu (toD a), .pu (toD b)] = .ok (!Nat.beq a.1 b.1) := by
    simp only [runT, run_testA, run_opA, run_varA, run_cA, List.getElem?_cons_zero, List.getElem?_cons_succ, bd_ok, ofO, vD, ea, ne_nat, toB]
  rw [t1]
  unfold findM
  cases h1 : Nat.beq a.1 b.1 with
  | false => rw [Bool.not_false, ifR_t]; rfl
  | true =>
    rw [Bool.not_true, ifR_f, run_nextA, seqR_nx, run_seqA, run_ifA]
    have t2 : runT (RT.run C E0 (tTest (tOp (rI0 fun i j => .bl (decide (j < i))) (tOp (rIxT K) (tVar 0) (tC (.int 0))) (tC (.int 9))))) [.pu (toD a), .pu (toD b)] = .ok false := by
      simp only [runT, run_testA, run_opA, run_varA, run_cA, List.getElem?_cons_zero, List.getElem?_cons_succ, bd_ok, ofO, vD, ea, run_I0, lt, toB]
    rw [t2, ifR_f, run_nextA, seqR_nx, run_seqA, run_ifA]
    have ll : ∀ a : Wb, (rbLen (K := K)).run [.tuple (a.2.map eP)] = some (.int (a.2.length : Int)) := fun a => by
      show some (PyData.int ((a.2.map eP).length : Int)) = _
      rw [List.length_map]
    have t3 : runT (RT.run C E0 (tTest (tOp rNe (tCB (rLenQ K) (tCons (tOp (rIxT K) (tVar 0) (tC (.int 1))) tNil)) (tCB (rLenQ K) (tCons (tOp (rIxT K) (tVar 1) (tC (.int 1))) tNil))))) [.pu (toD a), .pu (toD b)] = .ok (!Nat.beq a.2.length b.2.length) := by
      simp only [runT, run_testA, run_opA, run_cbA, run_aconsA, run_anilA, run_varA, run_cA, List.getElem?_cons_zero, List.getElem?_cons_succ, bd_ok, ofO, vD, eb, ll, ne_nat, toB]
    rw [t3, Bool.true_and]
    cases Nat.beq a.2.length b.2.length with
    | false => rw [Bool.not_false, ifR_t]; rfl
    | true =>
      rw [Bool.not_true, ifR_f, run_nextA, seqR_nx]
      have r1 : runD 1 (fNR K C) [] [toD a] = .ok (.list (lL (nrM a))) := runD_of na rfl
      have r2 : runD 1 (fNR K C) [] [toD b] = .ok (.list (lL (nrM b))) := runD_of nb rfl
      have rc : runD 3 (fComp K C) [] [.list (lL (nrM a)), .list (lL (nrM b)), .list []] = .ok (optD (compM (nrM a) (nrM b) a.1 [])) := runD_of (comp_ok (K := K) (C := C) (f := nrM a) (s := nrM b) (by rw [nrM_len]; omega) a.1 6 [] (by omega) (by rw [nrM_len]; simp) (by simp; omega)) rfl
      have l0 : ([] : List PyData).length ≤ 100000 := by simp
      simp only [run_seqA, run_retA, runW, run_call0A, okR, run_lstA, run_aconsA, run_anilA, run_varA, List.getElem?_cons_zero, List.getElem?_cons_succ, bd_ok, l0, if_true, r1, r2, rc, retR, seqR, outF0]
end
end DL
end
section
set_option Elab.async false
set_option linter.all false
set_option maxRecDepth 100000
set_option maxHeartbeats 4000000
/-! MA: find_renaming finds something iff alike: all pairs, by the mirror. Printed by genma.py. -/
namespace DL
open PySem L2 GX
def findN (p q : (Wb × Nat × List Nat) × List (List Nat)) : Bool := match Nat.beq p.1.1.1 q.1.1.1 && Nat.beq p.1.1.2.length q.1.1.2.length with
  | true => (compM p.2 q.2 p.1.1.1 []).isSome
  | false => false
theorem kFS : (((wsS.zip coS).zip nrS).all fun p => ((wsS.zip coS).zip nrS).all fun q => findN p q == alkN p.1 q.1) = true := by kernel_rfl
theorem kFL : (((wsL.zip coL).zip nrL).all fun p => ((wsL.zip coL).zip nrL).all fun q => findN p q == alkN p.1 q.1) = true := by kernel_rfl
section
variable {K : PySem.W.Frag} {C : Addr}
theorem find_of {ws ct : List Wb} {co : List (Nat × List Nat)} {nr : List (List (List Nat))} (F : CtF K C ws ct) (hN : (ws.map fun a => fNR K C [toD a]) = ws.map fun a => .ok (.list (lL (nrM a)))) (hC : (ws.map fun a => (codM a, cosM a)) = co) (hR : ws.map nrM = nr) (h : (((ws.zip co).zip nr).all fun p => ((ws.zip co).zip nr).all fun q => findN p q == alkN p.1 q.1) = true) {a b : Wb} (ha : a ∈ ws) (hb : b ∈ ws) :
    ∃ r, fFind K C [toD a, toD b] = .ok r ∧ isN r = !alkM a b := by
  subst hC
  subst hR
  refine ⟨_, find_ok (map_at hN ha) (map_at hN hb) (by have := F.le a ha; omega) (by have := F.le b hb; omega), ?_⟩
  have h1 := eq_of_beq (List.all_eq_true.mp (List.all_eq_true.mp h _ (zip_mem2 (f := fun a => (codM a, cosM a)) (g := nrM) ha)) _ (zip_mem2 (f := fun a => (codM a, cosM a)) (g := nrM) hb))
  rw [alkN_eq] at h1
  rw [← h1]
  unfold findN findM
  dsimp only
  cases Nat.beq a.1 b.1 && Nat.beq a.2.length b.2.length with
  | false => rfl
  | true =>
    simp only
    cases compM (nrM a) (nrM b) a.1 [] <;> rfl
theorem find_S {a b : Wb} (ha : a ∈ wsS) (hb : b ∈ wsS) : ∃ r, fFind K C [toD a, toD b] = .ok r ∧ isN r = !alkM a b := find_of (ctF_S K C) (kNS K C) kcoS knrS kFS ha hb
theorem find_L {a b : Wb} (ha : a ∈ wsL) (hb : b ∈ wsL) : ∃ r, fFind K C [toD a, toD b] = .ok r ∧ isN r = !alkM a b := find_of (ctF_L K C) (kNL K C) kcoL knrL kFL ha hb
end
end DL
end
set_option Elab.async false
set_option linter.all false
set_option warn.classDefReducibility false
set_option synthInstance.maxSize 1000000
set_option synthInstance.maxHeartbeats 4000000
set_option maxRecDepth 100000
set_option maxHeartbeats 0
/-! ZZ: the law holds. -/
namespace HX
open PySem PySem.Spec PyProof.Rows L2 He DL TLX
section
variable {P : Program} {w : World} {K : PySem.W.Frag} {mg : Str → Option Value} {base : Heap} {k : Nat} {f : Addr} {fd : FuncData} {ps : List Str} {sp : Sp}
/-- what the law may let out, whatever the world -/
def CXw (P : Program) : CXT := fun outer H s E u s' => ∃ w, L2.CX P w outer H s E u s'
theorem FnOk_w (F : FnOk P w K mg base (L2.CX P w) k f fd ps sp) : FnOk P w K mg base (CXw P) k f fd ps sp :=
  ⟨F.len, fun A outer s H args us vs Q E hr e0 hb r z => codeAny_mono (F.run A outer s H args us vs Q E hr e0 hb r z) fun r s' h => by
    cases r with
    | error e => exact ⟨w, h⟩
    | ok fl => cases fl <;> exact h⟩
theorem CXw_no (H : Hp) (s : Shared) (e : Value) (s' : Shared) (h : CXw P [] H s (fun _ _ _ => False) e s') : False := by
  obtain ⟨w, a, B, H', cls, d, _, _, _, _, _, _, _, z⟩ := h
  exact z
end
section
variable {K : PySem.W.Frag} [KitC K "bool"] [KitC K "int"] [KitC K "str"] [KitC K "tuple"] [KitC K "list"]
theorem law_true (ns : List Int) : fLaw K [scD ns] = .ok (.bool true) :=
  law_ok (fun a ha b hb => find_S ha hb) (fun a ha b hb => find_L ha hb) (fun d hp hd => same_ok 7 d hp hd) ns
theorem law_sp (nl : ∀ (a : Addr) (o : Obj), K.lookup a = some o → isLs o = false) (H : Hp) (a : Addr) (ns : List Int) (hO : Only H) (hS : SqL K H a (ns.map V.int)) :
    spF (aC K) 1 (fLaw K) [.ref a] H (fun v _ => v = .bl true) fun _ _ _ => False := by
  rcases hS with (r | ⟨o, r⟩) | ⟨o, its, n, lk, hc, _⟩
  · rcases hO a with z | ⟨o, xs, z⟩
    · rw [z] at r; cases r
    · rw [z] at r; cases r
  · refine ⟨[scD ns], H, rfl, Same.refl H, .cons (.frz ns r) .nil, ?_⟩
    rw [law_true ns]
    exact fun v H' s rd => rd.eqBool
  · have := nl a o lk
    rw [isLs_list hc] at this
    cases this
end
end HX
open PySem PySem.W PySem.Calls PyProof.Rows
theorem PySem.Challenge.cw_webnumbers_k16_whole_counts_tell_holds : PySem.Challenge.rw_webnumbers_k16_whole_counts_tell.Holds := by
  w_on; o_law
  refine HandSHeadRun.head_any (r := OpenLaw.row PySem.Challenge.rw_webnumbers_k16_whole_counts_tell) (q := view (OpenLaw.row PySem.Challenge.rw_webnumbers_k16_whole_counts_tell).prog [68]) (H := HX.hk) (ob := HX.ob) (M := 6000) (loose := HX.loose) (d := HandSHeadRun.topDef (OpenLaw.row PySem.Challenge.rw_webnumbers_k16_whole_counts_tell).prog 68) (kwd := []) HX.ob_eq
    (by kernel_rfl) (fun s => by kernel_rfl) HX.run (by kernel_rfl) (by kernel_rfl) (by kernel_rfl) (by rfl) (by first | assumption | decide +kernel) (by decide +kernel) ⟨rfl, rfl, rfl, rfl, rfl, by decide +kernel⟩ ?hw ?hc
  case hw => w_witness2
  case hc =>
    refine L2.walk_ofE (l := PySem.Challenge.rw_webnumbers_k16_whole_counts_tell) (n := 63) (k := 42) (x := "_law_script") (CX := HX.CXw HX.R.prog) rfl (by decide) (by kernel_rfl) ⟨rfl, by decide, by decide⟩ ?F (fun H s e s' z => HX.CXw_no H s e s' z)
    intro w mg fa h Y G hmg0
    obtain ⟨K, KX, c, nl⟩ := Y
    have hmg : mg ("law" : PySem.Str) = some (.ref fa) := by
      have e : (HandSHeadRun.topDef (OpenLaw.row PySem.Challenge.rw_webnumbers_k16_whole_counts_tell).prog 68).name = ("law" : PySem.Str) := by kernel_rfl
      rw [← e]
      exact hmg0
    haveI := HX.kit_bool c
    haveI := HX.kit_int c
    haveI := HX.kit_str c
    haveI := HX.kit_tuple c
    haveI := HX.kit_list c
    obtain ⟨fd, FD⟩ := c.d.def_ 46 (d := HX.dd 68 "law" []) rfl
    have e := hmg.symm.trans (He.glo_ok KX G (c.d.fact 46 (f := .glo "law") rfl))
    cases e
    have b := L2.FunD.bindsA (ps := ["_law_script"]) FD fun _ _ _ _ _ _ us hl => match us, hl with | [_], _ => rfl
    exact ⟨K, fd, DL.spF (HX.aC K) 1 (HX.fLaw K), KX, fun s v => b s [v] rfl, fun H a ns _ hO hS => HX.law_sp nl H a ns hO hS, fun base _ _ => HX.FnOk_w (HX.law_fn KX G c FD)⟩
